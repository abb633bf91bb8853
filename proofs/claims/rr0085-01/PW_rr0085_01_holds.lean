import PyProof.Rows.All
import Wide.All
import OpenK.AllK
import Wide.FinOn
import Lean
import PySem.Challenge.RW_rr0085_01
set_option Elab.async false
set_option compiler.extract_closed false
set_option maxRecDepth 100000
set_option linter.all false

section
open PySem PySem.W PyProof.Rows
namespace Mine
noncomputable def qv : Program := by
  refine' { PySem.Challenge.pw_rr0085_01 with main := { PySem.Challenge.pw_rr0085_01.main with body := [?a1, ?a2, ?a4, ?a5, ?a6, ?a7, ?a8, ?a9, ?a10, ?a11, ?a12, ?a13, ?a14, ?a15, ?a16, ?a17, ?a18, ?a19, ?a20, ?a22, ?a23, ?a25, ?a26, ?a27, ?a28, ?a29, ?a30, ?a31, ?a32, ?a33, ?a34, ?a35] } }
  (case a1 => refine' (?g1 : (PySem.Challenge.pw_rr0085_01.main.body[1]? = some ?x1) → Stmt) rfl; exact fun _ => ?x1)
  (case a2 => refine' (?g2 : (PySem.Challenge.pw_rr0085_01.main.body[2]? = some ?x2) → Stmt) rfl; exact fun _ => ?x2)
  (case a4 => refine' (?g4 : (PySem.Challenge.pw_rr0085_01.main.body[4]? = some ?x4) → Stmt) rfl; exact fun _ => ?x4)
  (case a5 => refine' (?g5 : (PySem.Challenge.pw_rr0085_01.main.body[5]? = some ?x5) → Stmt) rfl; exact fun _ => ?x5)
  (case a6 => refine' (?g6 : (PySem.Challenge.pw_rr0085_01.main.body[6]? = some ?x6) → Stmt) rfl; exact fun _ => ?x6)
  (case a7 => refine' (?g7 : (PySem.Challenge.pw_rr0085_01.main.body[7]? = some ?x7) → Stmt) rfl; exact fun _ => ?x7)
  (case a8 => refine' (?g8 : (PySem.Challenge.pw_rr0085_01.main.body[8]? = some ?x8) → Stmt) rfl; exact fun _ => ?x8)
  (case a9 => refine' (?g9 : (PySem.Challenge.pw_rr0085_01.main.body[9]? = some ?x9) → Stmt) rfl; exact fun _ => ?x9)
  (case a10 => refine' (?g10 : (PySem.Challenge.pw_rr0085_01.main.body[10]? = some ?x10) → Stmt) rfl; exact fun _ => ?x10)
  (case a11 => refine' (?g11 : (PySem.Challenge.pw_rr0085_01.main.body[11]? = some ?x11) → Stmt) rfl; exact fun _ => ?x11)
  (case a12 => refine' (?g12 : (PySem.Challenge.pw_rr0085_01.main.body[12]? = some ?x12) → Stmt) rfl; exact fun _ => ?x12)
  (case a13 => refine' (?g13 : (PySem.Challenge.pw_rr0085_01.main.body[13]? = some ?x13) → Stmt) rfl; exact fun _ => ?x13)
  (case a14 => refine' (?g14 : (PySem.Challenge.pw_rr0085_01.main.body[14]? = some ?x14) → Stmt) rfl; exact fun _ => ?x14)
  (case a15 => refine' (?g15 : (PySem.Challenge.pw_rr0085_01.main.body[15]? = some ?x15) → Stmt) rfl; exact fun _ => ?x15)
  (case a16 => refine' (?g16 : (PySem.Challenge.pw_rr0085_01.main.body[16]? = some ?x16) → Stmt) rfl; exact fun _ => ?x16)
  (case a17 => refine' (?g17 : (PySem.Challenge.pw_rr0085_01.main.body[17]? = some ?x17) → Stmt) rfl; exact fun _ => ?x17)
  (case a18 => refine' (?g18 : (PySem.Challenge.pw_rr0085_01.main.body[18]? = some ?x18) → Stmt) rfl; exact fun _ => ?x18)
  (case a19 => refine' (?g19 : (PySem.Challenge.pw_rr0085_01.main.body[19]? = some ?x19) → Stmt) rfl; exact fun _ => ?x19)
  (case a20 => refine' (?g20 : (PySem.Challenge.pw_rr0085_01.main.body[20]? = some ?x20) → Stmt) rfl; exact fun _ => ?x20)
  (case a22 => refine' (?g22 : (PySem.Challenge.pw_rr0085_01.main.body[22]? = some ?x22) → Stmt) rfl; exact fun _ => ?x22)
  (case a23 => refine' (?g23 : (PySem.Challenge.pw_rr0085_01.main.body[23]? = some ?x23) → Stmt) rfl; exact fun _ => ?x23)
  (case a25 => refine' (?g25 : (PySem.Challenge.pw_rr0085_01.main.body[25]? = some ?x25) → Stmt) rfl; exact fun _ => ?x25)
  (case a26 => refine' (?g26 : (PySem.Challenge.pw_rr0085_01.main.body[26]? = some ?x26) → Stmt) rfl; exact fun _ => ?x26)
  (case a27 => refine' (?g27 : (PySem.Challenge.pw_rr0085_01.main.body[27]? = some ?x27) → Stmt) rfl; exact fun _ => ?x27)
  (case a28 => refine' (?g28 : (PySem.Challenge.pw_rr0085_01.main.body[28]? = some ?x28) → Stmt) rfl; exact fun _ => ?x28)
  (case a29 => refine' (?g29 : (PySem.Challenge.pw_rr0085_01.main.body[29]? = some ?x29) → Stmt) rfl; exact fun _ => ?x29)
  (case a30 => refine' (?g30 : (PySem.Challenge.pw_rr0085_01.main.body[30]? = some ?x30) → Stmt) rfl; exact fun _ => ?x30)
  (case a31 => refine' (?g31 : (PySem.Challenge.pw_rr0085_01.main.body[31]? = some ?x31) → Stmt) rfl; exact fun _ => ?x31)
  (case a32 => refine' (?g32 : (PySem.Challenge.pw_rr0085_01.main.body[32]? = some ?x32) → Stmt) rfl; exact fun _ => ?x32)
  (case a33 => refine' (?g33 : (PySem.Challenge.pw_rr0085_01.main.body[33]? = some ?x33) → Stmt) rfl; exact fun _ => ?x33)
  (case a34 => refine' (?g34 : (PySem.Challenge.pw_rr0085_01.main.body[34]? = some ?x34) → Stmt) rfl; exact fun _ => ?x34)
  (case a35 => refine' (?g35 : (PySem.Challenge.pw_rr0085_01.main.body[35]? = some ?x35) → Stmt) rfl; exact fun _ => ?x35)
noncomputable def recOf : Stmt → Option (DefRec × List (Str × Expr))
  | .FunctionDef n ps b _ _ _ sc _ _ p => some (⟨n, ps, b, sc, p⟩, [])
  | _ => none
theorem hdef0 : PySem.W.defOf qv (Str.ofString "law") = (PySem.Challenge.pw_rr0085_01.main.body[35]?).bind recOf := by kernel_rfl
theorem hfind1 : ((recsOf qv).find? (fun e => e.name == Str.ofString "law")).isSome = true := by kernel_rfl
theorem hp0 : PySem.Challenge.pw_rr0085_01.theDef (Str.ofString "law") = ((PySem.Challenge.pw_rr0085_01.main.body[35]?).bind recOf).map (fun d => (d.1.params, d.1.body, d.1.scope)) := by kernel_rfl
theorem ok0 : (chainsOk qv && opensWell PySem.Challenge.pw_rr0085_01 && (frees (OpenRow.toRowW (OpenLaw.row PySem.Challenge.rw_rr0085_01)) && (OpenLaw.row PySem.Challenge.rw_rr0085_01).within.isEmpty)) = true := by kernel_rfl
theorem head_open (H : Hook) {n bd : Str} {ps : Arguments} {b : List Stmt} {dl : List Expr} {rt : Option Expr} {tp : List TypeParam} {sc : Scope} {ts : Option Scope} {p : Pos}
    (hst : PySem.Challenge.pw_rr0085_01.main.body[35]? = some (.FunctionDef n ps b dl rt tp sc ts bd p))
    (hl : LeftO (OpenLaw.row PySem.Challenge.rw_rr0085_01).prog qv [Str.ofString "set_of_sets"] (fun s => xlAt qv [] s && recOk (RowW.records (OpenRow.toRowW (OpenLaw.row PySem.Challenge.rw_rr0085_01))) s) H.obs H.val 3626)
    (hk : kwWritten? ps.kwonlyargs ps.kw_defaults = some []) (said : (OpenLaw.row PySem.Challenge.rw_rr0085_01).wellSaid = true) (hw : (OpenRow.toRowW (OpenLaw.row PySem.Challenge.rw_rr0085_01)).promised)
    (hc : WalkO qv [Str.ofString "set_of_sets"] (XL qv []) H.says (OpenRow.toRowW (OpenLaw.row PySem.Challenge.rw_rr0085_01)) ⟨n, ps, b, sc, p⟩ [] fun f vs => PySem.call f vs) : (OpenLaw.row PySem.Challenge.rw_rr0085_01).Holds :=
  holds_open hl H.of H.keeps (fun s e => xl_of s (Bool.and_eq_true_iff.mp e).1) XL.keeps (hdef0.trans (by rw [hst]; rfl)) (hp0.trans (by rw [hst]; rfl)) hk (fun s e => recFacts_of (Bool.and_eq_true_iff.mp e).2) rfl said ok0 ⟨rfl, rfl, rfl, rfl, rfl, by decide +kernel⟩ hw hc
end Mine
local macro_rules | `(tactic| o_head $H) => `(tactic| (
  (refine' Mine.head_open $H ?hst ?hl ?hk (by assumption) ?hw ?hc)
  (case hst => exact rfl)
  (case hl => solve_by_elim)
  (case hk => exact rfl)))
local macro_rules | `(tactic| k_qdec) => `(tactic| fail "no")
set_option maxHeartbeats 4000000 in
theorem Mine.early (said9 : PySem.Challenge.rw_rr0085_01.wellSaid = true) (hl9 : ∀ H : Hook, LeftO (OpenLaw.row PySem.Challenge.rw_rr0085_01).prog Mine.qv [Str.ofString "set_of_sets"] (fun s => xlAt Mine.qv [] s && recOk (RowW.records (OpenRow.toRowW (OpenLaw.row PySem.Challenge.rw_rr0085_01))) s) H.obs H.val 3626)
    (walk9 : ∀ (H : Hook) (d : DefRec), WalkO Mine.qv [Str.ofString "set_of_sets"] (XL Mine.qv []) H.says (OpenRow.toRowW (OpenLaw.row PySem.Challenge.rw_rr0085_01)) d [] fun f vs => PySem.call f vs) : PySem.Challenge.rw_rr0085_01.Holds := by
  w_on; (refine holds_law said9 fun said => ?_); k_head; (case hw => w_witness2)
  exact walk9 _ _
namespace Mine
noncomputable def AS : List Addr := [2, 3, 15, 18, 23, 24, 26, 27, 29, 30, 31, 33, 34, 36, 37, 38, 39, 40, 41, 44, 51, 52, 53, 56, 59, 60, 61, 64, 65, 66, 69, 70, 71, 73, 74, 76, 77, 78, 81, 82, 83, 86, 87, 88, 90, 91, 93, 94, 95, 98, 99, 100, 103, 104, 105, 108, 109, 110, 112, 113, 115, 116, 117, 119, 120, 122, 123, 124, 127, 128, 129, 132, 133, 134, 137, 138, 146, 148, 149, 151, 152, 153, 155, 156, 158, 159, 160, 163, 164, 165, 167, 168, 170, 171, 172, 174, 175, 177, 178, 179, 182, 183, 184, 187, 188, 189, 191, 192, 194, 195, 196, 198, 199, 201, 202, 203, 204, 205, 206, 207, 210, 211, 213, 214, 216, 217, 218, 221, 222, 223, 226, 227, 228, 230, 231, 233, 234, 235, 238, 239, 240, 243, 244, 245, 248, 249, 250, 252, 253, 255, 256, 257, 259, 260, 262, 263, 264, 267, 268]
theorem asOk : ∀ P, AS = (early.heap_1 P).map (·.1) := fun _ => by kernel_rfl
noncomputable def opT (p : Program) (w : World) (N : Nat) : Option Shared := (PySem.W.Fast.tw10274390034422433532 PySem.W.Fast.tw14364793385576792824 (opening p) w N (PySem.W.Fast.tw1435165496053646825 (opening p)).1 (PySem.W.Fast.tw1435165496053646825 (opening p)).2).bind (PySem.W.Fast.tw14289696077712309145 p)
theorem opT_eq (p : Program) (w : World) (N : Nat) : fencedOpening treeTable p w N = opT p w N := by
  unfold fencedOpening opT
  rw [PySem.W.Fast.te14364793385576792824, PySem.W.Fast.te10274390034422433532, PySem.W.Fast.te14289696077712309145, PySem.W.Fast.te1435165496053646825]
noncomputable def topT (p : Program) (w : World) (n₀ : Nat) (ann : Option Value) : Nat → SharedT → Thread → Option SharedT
  | 0, _, _ => none
  | n + 1, s, t => cond (through t) (some s) (cond (PySem.W.Fast.tw6613529449190102663 n₀ ann t) ((PySem.W.Fast.tw10156331382660048174 (PySem.W.Fast.tw11892475500146522536 PySem.W.Fast.tw14364793385576792824) p w s t).bind fun r => topT p w n₀ ann n r.1 r.2) none)
theorem topT_of {p : Program} {w : World} {n₀ : Nat} {ann : Option Value} : ∀ {n : Nat} {s s' : SharedT} {t : Thread}, topT p w n₀ ann n s t = some s' → topRun treeTable p w n₀ ann n s.abs t = some s'.abs
  | 0, _, _, _, h => (nomatch (h : (none : Option SharedT) = some _))
  | n + 1, s, s', t, h => by
    replace h : cond (through t) (some s) (cond (PySem.W.Fast.tw6613529449190102663 n₀ ann t) ((PySem.W.Fast.tw10156331382660048174 (PySem.W.Fast.tw11892475500146522536 PySem.W.Fast.tw14364793385576792824) p w s t).bind fun r => topT p w n₀ ann n r.1 r.2) none) = some s' := h
    rw [← PySem.W.Fast.te6613529449190102663, ← PySem.W.Fast.te10156331382660048174, ← PySem.W.Fast.te11892475500146522536, ← PySem.W.Fast.te14364793385576792824] at h
    unfold topRun
    cases ht : through t with
    | true => rw [ht] at h; exact congrArg (fun x => some (SharedT.abs x)) (Option.some.inj h)
    | false =>
      rw [ht] at h
      cases hk : stepOk n₀ ann t with
      | false => rw [hk] at h; exact (nomatch (h : (none : Option SharedT) = some _))
      | true =>
        rw [hk] at h
        obtain ⟨r, hs, h⟩ := Option.bind_eq_some_iff.mp (h : (stepT (denote treeTable) p w s t).bind _ = some _)
        rw [stepT_spec (s' := r.1) (t' := r.2) hs]
        exact topT_of h
/-- the tree of a list: the node at a has its sons at a + b and a + 2 b -/
noncomputable def mkT : Nat → List Obj → Nat → Nat → BT
  | 0, _, _, _ => .nil
  | k + 1, l, b, a => @Option.rec Obj (fun _ => BT) .nil (fun o => .node o (mkT k l (2 * b) (b + a)) (mkT k l (2 * b) (2 * b + a))) l[a]?
noncomputable def toT (s : Shared) : SharedT := ⟨mkT 12 s.heap.objs.toList 1 0, s.heap.objs.size, s.heap.life, s.gens, s.drawn, s.toks, s.os⟩
/-- the run of the top on a tree, and what is seen behind it -/
noncomputable def seesT {α : Type} (p : Program) (F : Shared → α) (w : World) (N : Nat) (s : Shared) : Option α :=
  cond (s.heap.isNs mainGlobals && s.gens.size == 0)
    ((topT p w s.heap.objs.size (s.heap.nsMap mainGlobals "__annotations__") N (toT s) (topStub p)).bind fun s₁ => cond (staticsOk (importedModules p.main.body) s.heap s₁.abs.heap && namesBound p s₁.abs.heap && gensDone s₁.abs && laidKept s.heap s₁.abs.heap) (some (F s₁.abs)) none) none
theorem seesT_of {α : Type} {p : Program} {F : Shared → α} {w : World} {N : Nat} {a : α} (h0 : (opT p w N).map (fun s => s.heap) = (opT p w N).map (fun s => (toT s).abs.heap)) (h : (opT p w N).bind (seesT p F w N) = some a) : (openEnds treeTable p w N).map F = some a := by
  obtain ⟨s, e, k⟩ := Option.bind_eq_some_iff.mp h
  rw [e] at h0
  have eh : s.heap = (toT s).abs.heap := Option.some.inj h0
  have es : (toT s).abs = s := by
    obtain ⟨hp, gs, d, tk, os⟩ := s
    show Shared.mk (toT ⟨hp, gs, d, tk, os⟩).abs.heap gs d tk os = _
    rw [← eh]
  unfold openEnds
  rw [opT_eq, e]
  show Option.map F (topFrom treeTable p w N s) = some a
  unfold seesT at k
  unfold topFrom
  cases h1 : s.heap.isNs mainGlobals && s.gens.size == 0 with
  | false => rw [h1] at k; exact (nomatch (k : (none : Option α) = some _))
  | true =>
    rw [h1] at k
    obtain ⟨s₁, r, k⟩ := Option.bind_eq_some_iff.mp (k : Option.bind _ _ = some _)
    have r' := topT_of r
    rw [es] at r'
    dsimp only
    rw [r', Option.bind_some]
    cases h2 : staticsOk (importedModules p.main.body) s.heap s₁.abs.heap && namesBound p s₁.abs.heap && gensDone s₁.abs && laidKept s.heap s₁.abs.heap with
    | false => rw [h2] at k; exact (nomatch (k : (none : Option α) = some _))
    | true => rw [h2] at k; exact k
noncomputable def sB (p q : Program) (loose : List Str) (Xt : Shared → Bool) := (fun s : Shared => (PySem.W.Fast.tw5160383126252970620 ((recsOf q).map (·.name)) (ownsOf q) [] { s with gens := #[] }, s.heap.bltView,
      s.heap.keysOk (looseW q loose) ((recsOf q).map (·.name)) ((litsOf q).map (·.1)) ((clssOf q (looseW q loose)).map (·.name)) && s.heap.accountedOkI (importedModules p.main.body) && s.heap.isNs mainGlobals && s.heap.isNs builtinsNs && PySem.W.Fast.tw10994771534591457954 q s.heap && Xt s && s.gens.size == 0))
noncomputable def sC (q : Program) (loose : List Str) := (fun s : Shared => (PySem.W.Fast.tw479339242167458305 q s, PySem.W.Fast.tw16090120013241838585 q (drecsOf q) s, PySem.W.Fast.tw2386780881361962483 q (looseW q loose) s, plainSeenD q loose s, PySem.W.Fast.tw7317090234206586261 q s, PySem.W.Fast.tw7369524293546568484 q loose s))
theorem left_three {p q : Program} {loose : List Str} {Xt : Shared → Bool} {α : Type} {Yf : Shared → α} {Ya : World → α} {N : Nat} (h0 : ∀ w, (opT p w N).map (fun s => s.heap) = (opT p w N).map (fun s => (toT s).abs.heap)) (hA : ∀ w, (opT p w N).bind (seesT p Yf w N) = some (Ya w))
    (hB : ∀ w, (opT p w N).bind (seesT p (sB p q loose Xt) w N) =
      some (expectedOf q, bltViewBooted, true))
    (hC : ∀ w, (opT p w N).bind (seesT p (sC q loose) w N) =
      some (true, pinGoodD (drecsOf q), plainGoodE q (looseW q loose), plainGoodD q loose, wideGood q, clsGoodW q loose)) : LeftO p q loose Xt Yf Ya N := fun w => by
  obtain ⟨s, e, a⟩ := Option.map_eq_some_iff.mp (seesT_of (h0 w) (hA w))
  have b := seesT_of (h0 w) (hB w)
  have c := seesT_of (h0 w) (hC w)
  rw [e] at b c
  have b' := Option.some.inj b
  have c' := Option.some.inj c
  unfold sB at b'
  unfold sC at c'
  rw [← PySem.W.Fast.te5160383126252970620, ← PySem.W.Fast.te10994771534591457954] at b'
  rw [← PySem.W.Fast.te479339242167458305, ← PySem.W.Fast.te16090120013241838585, ← PySem.W.Fast.te2386780881361962483, ← PySem.W.Fast.te7317090234206586261, ← PySem.W.Fast.te7369524293546568484] at c'
  obtain ⟨b1, b2⟩ := Prod.mk.inj b'
  obtain ⟨b2, b3⟩ := Prod.mk.inj b2
  rw [e, ← a]
  show some (openSeen q loose (importedModules p.main.body) Xt true s, Yf s) = some (openGood q loose, Yf s)
  refine congrArg (fun x => some (x, Yf s)) ?_
  unfold openSeen openGood
  rw [b1, b2]
  exact congrArg (Prod.mk (expectedOf q)) (congrArg (Prod.mk bltViewBooted) (congr (congrArg Prod.mk b3) c'))
theorem op0 : ∀ w, (opT (OpenLaw.row PySem.Challenge.rw_rr0085_01).prog w 3626).map (fun s => s.heap) = (opT (OpenLaw.row PySem.Challenge.rw_rr0085_01).prog w 3626).map (fun s => (toT s).abs.heap) := fun w => by kernel_rfl
theorem hlA : ∀ w, (opT (OpenLaw.row PySem.Challenge.rw_rr0085_01).prog w 3626).bind (seesT (OpenLaw.row PySem.Challenge.rw_rr0085_01).prog (kHook early.heap_1 AS asOk).obs w 3626) = some ((kHook early.heap_1 AS asOk).val w) := fun w => by kernel_rfl
theorem hlB : ∀ w, (opT (OpenLaw.row PySem.Challenge.rw_rr0085_01).prog w 3626).bind (seesT (OpenLaw.row PySem.Challenge.rw_rr0085_01).prog (sB (OpenLaw.row PySem.Challenge.rw_rr0085_01).prog qv [Str.ofString "set_of_sets"] (fun s => xlAt qv [] s && recOk (RowW.records (OpenRow.toRowW (OpenLaw.row PySem.Challenge.rw_rr0085_01))) s)) w 3626) = some (expectedOf qv, bltViewBooted, true) := fun w => by kernel_rfl
theorem hlC : ∀ w, (opT (OpenLaw.row PySem.Challenge.rw_rr0085_01).prog w 3626).bind (seesT (OpenLaw.row PySem.Challenge.rw_rr0085_01).prog (sC qv [Str.ofString "set_of_sets"]) w 3626) = some (true, pinGoodD (drecsOf qv), plainGoodE qv (looseW qv [Str.ofString "set_of_sets"]), plainGoodD qv [Str.ofString "set_of_sets"], wideGood qv, clsGoodW qv [Str.ofString "set_of_sets"]) := fun w => by kernel_rfl
theorem hl0 : LeftO (OpenLaw.row PySem.Challenge.rw_rr0085_01).prog qv [Str.ofString "set_of_sets"] (fun s => xlAt qv [] s && recOk (RowW.records (OpenRow.toRowW (OpenLaw.row PySem.Challenge.rw_rr0085_01))) s) (kHook early.heap_1 AS asOk).obs (kHook early.heap_1 AS asOk).val 3626 := left_three op0 hlA hlB hlC
theorem sd1 : namesResolve (OpenLaw.row PySem.Challenge.rw_rr0085_01).prog = true := (congrFun PySem.W.Fast.te8377067652309620493 _).trans (by kernel_rfl)
theorem sd2 : namesMeet (OpenLaw.row PySem.Challenge.rw_rr0085_01).prog (OpenLaw.row PySem.Challenge.rw_rr0085_01).prog.main.body (fun _ n => attrL n) = true := by
  rw [PySem.W.Fast.te17119622794617984870]; kernel_rfl
theorem sd3 : noRoadLSs { strict := !(importedModules (OpenLaw.row PySem.Challenge.rw_rr0085_01).prog.main.body).all cThrough.contains, foot := none, bare := (["vars", "dir", "locals"] : List Str).filter (readsOut (OpenLaw.row PySem.Challenge.rw_rr0085_01).prog (OpenLaw.row PySem.Challenge.rw_rr0085_01).prog.main.body) } (OpenLaw.row PySem.Challenge.rw_rr0085_01).prog.main.body = true := by
  rw [PySem.W.Fast.te8326940854005059898]; kernel_rfl
theorem sd4 : (OpenLaw.row PySem.Challenge.rw_rr0085_01).wellSaid = true := by
  unfold OpenRow.wellSaid OpenRow.partSaid looksOpen
  rw [sd1, sd2, sd3]; kernel_rfl
theorem said0 : PySem.Challenge.rw_rr0085_01.wellSaid = true := by
  unfold OpenLaw.wellSaid
  rw [sd4, PySem.W.Fast.te17119622794617984870, PySem.W.Fast.te8326940854005059898, PySem.W.Fast.te8179353310426384613, PySem.W.Fast.named_eq, PySem.W.Fast.te16286561074155671207, PySem.W.Fast.te10501279942588096481, PySem.W.Fast.te9558739934217749035]; kernel_rfl
end Mine
end

section
open PySem
namespace Mine

/-- plain data -/
inductive D where
  | none
  | bool (b : Bool)
  | int (i : Int)
  | str (x : Str)
  | tup (ds : List D)
  | list (ds : List D)
  deriving Inhabited


/-- what a name of a frame may hold -/
inductive V where
  | d (x : D)
  | keys (ks : List D)
  | setk (ks : List D)
  | fn (x : Str)
  | ev (n : Int) (rels : List D)
  | meth (n : Int) (rels : List D) (name : Str)
  | feed (cs : List Int)
  | grp (g : List (Int × List D))
  | at (a : Nat)
  deriving Inhabited

noncomputable def below (n : Nat) (f : Nat → Bool) : Bool := Nat.rec false (fun m _ => f m) n
mutual
noncomputable def D.simple : Nat → D → Bool
  | _, .none => false
  | _, .bool _ => false
  | _, .int _ => true
  | _, .str x => PyData.strOk x
  | n, .tup ds => below n fun m => D.simples m ds
  | n, .list ds => below n fun m => D.simples m ds
noncomputable def D.simples : Nat → List D → Bool
  | _, [] => true
  | n, d :: ds => D.simple n d && D.simples n ds
end
theorem simples_c {n : Nat} {d : D} {ds : List D} : D.simples n (d :: ds) = (D.simple n d && D.simples n ds) := rfl
theorem simple_t {n : Nat} {ds : List D} : D.simple (n + 1) (.tup ds) = D.simples n ds := rfl
theorem simple_l {n : Nat} {ds : List D} : D.simple (n + 1) (.list ds) = D.simples n ds := rfl

noncomputable def LIM : Nat := 4096

abbrev Rho := List (Str × V)
abbrev Names := List (Str × NameKind)


/-! parts of values and of the text -/
noncomputable def dOf? : V → Option D
  | .d x => some x
  | _ => none
noncomputable def evOf? : V → Option (Int × List D)
  | .ev k rels => some (k, rels)
  | _ => none
noncomputable def grpOf? : V → Option (List (Int × List D))
  | .grp g => some g
  | _ => none
noncomputable def fnOf? : V → Option Str
  | .fn x => some x
  | _ => none
noncomputable def intD? : D → Option Int
  | .int i => some i
  | _ => none
noncomputable def boolD? : D → Option Bool
  | .bool b => some b
  | _ => none
noncomputable def truth? (v : V) : Option Bool := (dOf? v).bind boolD?
noncomputable def strD? : D → Option Str
  | .str x => some x
  | _ => none
noncomputable def nil? {α : Type} : List α → Option Unit
  | [] => some ()
  | _ :: _ => none
noncomputable def cons? {α : Type} : List α → Option (α × List α)
  | [] => none
  | a :: l => some (a, l)
noncomputable def one? {α : Type} (l : List α) : Option α := (cons? l).bind fun p => (nil? p.2).bind fun _ => some p.1
noncomputable def two? {α : Type} (l : List α) : Option (α × α) := (cons? l).bind fun p => (one? p.2).bind fun b => some (p.1, b)
noncomputable def cInt? : Const → Option Int
  | .int i => some i
  | _ => none
/-- the parts of an expression, each kind at its place -/
noncomputable def parts : Expr → Option Const × Option (Str × Pos) × Option (Expr × Str × Pos) × Option (List (Option Expr) × List Expr × Pos) × Option (Option Expr × Option Expr × Option Expr × Pos) × Option (List Expr × Nat × Pos) × Option (List Expr × Pos) × Option (Expr × List Expr × List Keyword × Pos)
  | .Constant c _ _ => (some c, none, none, none, none, none, none, none)
  | .Name x p => (none, some (x, p), none, none, none, none, none, none)
  | .Attribute o m q => (none, none, some (o, m, q), none, none, none, none, none)
  | .Dict ks vs p => (none, none, none, some (ks, vs, p), none, none, none, none)
  | .Slice lo hi st p => (none, none, none, none, some (lo, hi, st, p), none, none, none)
  | .Tuple es k p => (none, none, none, none, none, some (es, k, p), none, none)
  | .List es p => (none, none, none, none, none, none, some (es, p), none)
  | .Call f as ks p => (none, none, none, none, none, none, none, some (f, as, ks, p))
  | _ => (none, none, none, none, none, none, none, none)
noncomputable def const? (e : Expr) : Option Const := (parts e).1
noncomputable def negInt? (e : Expr) : Option Int := (const? e).bind cInt?
noncomputable def name? (e : Expr) : Option (Str × Pos) := (parts e).2.1
noncomputable def attr? (e : Expr) : Option (Expr × Str × Pos) := (parts e).2.2.1
noncomputable def dict? (e : Expr) : Option (List (Option Expr) × List Expr × Pos) := (parts e).2.2.2.1
noncomputable def slice? (e : Expr) : Option (Option Expr × Option Expr × Option Expr × Pos) := (parts e).2.2.2.2.1
noncomputable def tuple? (e : Expr) : Option (List Expr × Nat × Pos) := (parts e).2.2.2.2.2.1
noncomputable def list? (e : Expr) : Option (List Expr × Pos) := (parts e).2.2.2.2.2.2.1
noncomputable def call? (e : Expr) : Option (Expr × List Expr × List Keyword × Pos) := (parts e).2.2.2.2.2.2.2
/-- by cases of an option -/
noncomputable def oc {α β : Type} : Option α → β → (α → β) → β
  | none, b, _ => b
  | some a, _, f => f a
noncomputable def isN {α : Type} : Option α → Bool
  | none => true
  | some _ => false
noncomputable def iterD : D → Option (List D)
  | .tup ds => some ds
  | .list ds => some ds
  | _ => none
noncomputable def iterV (v : V) : Option (List D) := (dOf? v).bind iterD
noncomputable def listD? : D → Option (List D)
  | .list ds => some ds
  | _ => none
noncomputable def tupD? : D → Option (List D)
  | .tup ds => some ds
  | _ => none
noncomputable def D.isNo : D → Bool
  | .none => true
  | _ => false
mutual
noncomputable def D.eqv : D → D → Bool
  | .none, e => e.isNo
  | .bool a, e => oc (boolD? e) false fun b => a == b
  | .int a, e => oc (intD? e) false fun b => a == b
  | .str a, e => oc (strD? e) false fun b => a == b
  | .tup a, e => oc (tupD? e) false fun b => D.eqvs a b
  | .list a, e => oc (listD? e) false fun b => D.eqvs a b
noncomputable def D.eqvs : List D → List D → Bool
  | [], l => oc (cons? l) true fun _ => false
  | a :: as, l => oc (cons? l) false fun p => D.eqv a p.1 && D.eqvs as p.2
end
theorem eqvs_nn : D.eqvs [] [] = true := rfl
theorem eqvs_nc {b : D} {bs : List D} : D.eqvs [] (b :: bs) = false := rfl
theorem eqvs_cn {b : D} {bs : List D} : D.eqvs (b :: bs) [] = false := rfl
theorem eqvs_cc {a b : D} {as bs : List D} : D.eqvs (a :: as) (b :: bs) = (D.eqv a b && D.eqvs as bs) := rfl
theorem eqv_t {a b : List D} : D.eqv (.tup a) (.tup b) = D.eqvs a b := rfl
theorem eqv_l {a b : List D} : D.eqv (.list a) (.list b) = D.eqvs a b := rfl
theorem eqv_b {a b : Bool} : D.eqv (.bool a) (.bool b) = (a == b) := rfl
theorem eqv_i {a b : Int} : D.eqv (.int a) (.int b) = (a == b) := rfl
theorem eqv_s {a b : Str} : D.eqv (.str a) (.str b) = (a == b) := rfl
theorem no_iff {p : Prop} (h : ¬ p) : (false = true) ↔ p := ⟨fun e => absurd e Bool.false_ne_true, fun e => absurd e h⟩
noncomputable def feedOf? : V → Option (List Int)
  | .feed cs => some cs
  | _ => none
noncomputable def isRow : D → Bool
  | .tup ds => ds.all fun d => match d with | .int _ => true | _ => false
  | _ => false
/-- a row of one atom or more -/
noncomputable def isRow1 (d : D) : Bool := isRow d && match d with
  | .tup [] => false
  | _ => true
noncomputable def isInt : D → Bool
  | .int _ => true
  | _ => false

noncomputable def intOp (a b : Int) : Operator → Option D
  | .Add => some (.int (a + b))
  | .Sub => some (.int (a - b))
  | .Mult => if a.natAbs < 4294967296 ∧ b.natAbs < 4294967296 then some (.int (a * b)) else none
  | .Mod => if 0 < b then some (.int (a % b)) else none
  | .FloorDiv => if 0 < b ∧ b < 1073741824 then some (.int (a / b)) else none
  | .Pow => if a = 2 ∧ 0 ≤ b ∧ b < 64 then some (.int (2 ^ b.toNat)) else none
  | .RShift => if 0 ≤ a ∧ 0 ≤ b ∧ b < 64 then some (.int (a / 2 ^ b.toNat)) else none
  | .BitAnd => if 0 ≤ a ∧ b = 1 then some (.int (a % 2)) else none
  | _ => none
noncomputable def tupOp (a b : List D) : Operator → Option D
  | .Add => if a.length + b.length < LIM then some (.tup (a ++ b)) else none
  | _ => none
noncomputable def binD (op : Operator) (a b : D) : Option D := oc (intD? a) ((tupD? a).bind fun x => (tupD? b).bind fun y => tupOp x y op) fun i => (intD? b).bind fun j => intOp i j op

/-- two tuples, or two lists -/
noncomputable def seqs? (a b : D) : Option (List D × List D) := oc (tupD? a) ((listD? a).bind fun x => (listD? b).bind fun y => some (x, y)) fun x => (tupD? b).bind fun y => some (x, y)
noncomputable def primEq (a b : D) : Option Bool := oc (intD? a) (oc (boolD? a) ((strD? a).bind fun x => (strD? b).bind fun y => some (x == y)) fun x => (boolD? b).bind fun y => some (x == y)) fun i => (intD? b).bind fun j => some (i == j)
noncomputable def eqD (a b : D) : Option Bool := oc (seqs? a b) (primEq a b) fun p => if D.simples 4 p.1 && D.simples 4 p.2 then some (D.eqvs p.1 p.2) else none
noncomputable def ltD (f : Int → Int → Bool) (a b : D) : Option Bool := (intD? a).bind fun i => (intD? b).bind fun j => some (f i j)
noncomputable def isD (a b : D) : Option Bool := (boolD? a).bind fun i => (boolD? b).bind fun j => some (i != j)
noncomputable def inD (a b : D) : Option Bool := (tupD? b).bind fun ds => if a.simple 4 && D.simples 4 ds then some (ds.any fun d => d.eqv a) else none
noncomputable def cmpD (a b : D) : CmpOp → Option Bool
  | .Eq => eqD a b
  | .NotEq => (eqD a b).bind fun c => some (!c)
  | .Lt => ltD (fun x y => decide (x < y)) a b
  | .LtE => ltD (fun x y => decide (x ≤ y)) a b
  | .Gt => ltD (fun x y => decide (y < x)) a b
  | .IsNot => isD a b
  | .In => inD a b
  | _ => none
noncomputable def keysOf? : V → Option (List D)
  | .keys ks => some ks
  | _ => none
noncomputable def cmpK (a : D) (ks : List D) : CmpOp → Option Bool
  | .In => if (isRow a && ks.all isRow) || (isInt a && ks.all isInt) then some (ks.any fun d => d.eqv a) else none
  | .NotIn => if (isRow a && ks.all isRow) || (isInt a && ks.all isInt) then some (!ks.any fun d => d.eqv a) else none
  | _ => none
noncomputable def cmpV (op : CmpOp) (v w : V) : Option Bool := (dOf? v).bind fun a => oc (dOf? w) ((keysOf? w).bind fun ks => cmpK a ks op) fun b => cmpD a b op

noncomputable def itemAt (ds : List D) (i : Int) : Option D :=
  if 0 ≤ i then ds[i.toNat]? else if -(ds.length : Int) ≤ i then ds[(i + ds.length).toNat]? else none

/-- Python's bounds of a cut -/
noncomputable def clampTo (n : Nat) (i : Int) : Nat := if i < 0 then (i + n).toNat else min i.toNat n
noncomputable def cut (ds : List D) (lo hi : Option Int) : List D :=
  let l := match lo with | some i => clampTo ds.length i | none => 0
  let h := match hi with | some i => clampTo ds.length i | none => ds.length
  (ds.take h).drop l

noncomputable def subF (cs : List Int) (σ : Nat) (x : Str) : Option V := if x == ("spot" : Str) then some (.d (.int σ)) else if x == ("cells" : Str) then (if cs.length < LIM then some (.d (.list (cs.map .int))) else none) else none
noncomputable def subV (σ : Nat) (v w : V) : Option V := (dOf? w).bind fun k => oc (dOf? v) ((feedOf? v).bind fun cs => (strD? k).bind fun x => subF cs σ x) fun a => (iterD a).bind fun ds => (intD? k).bind fun i => (itemAt ds i).bind fun d => some (.d d)

noncomputable def setName (ρ : Rho) (x : Str) (v : V) : Rho := (x, v) :: ρ

/-- a name that its block stores -/
noncomputable def stor (nm : Names) (x : Str) : Bool := nm.lookup x == some .local || nm.lookup x == some .cell
noncomputable def isTup (e : Expr) : Bool := !isN (tuple? e)
noncomputable def meths : List Str := ["of_two", "has_many", "truth", "set_of"]

/-- the first of each among keys -/
noncomputable def dedup : List D → List D → List D
  | acc, [] => acc
  | acc, d :: ds => if acc.any (fun a => a.eqv d) then dedup acc ds else dedup (acc ++ [d]) ds

noncomputable def pairKey? (d : D) : Option D := (tupD? d).bind fun l => (cons? l).bind fun p => (cons? p.2).bind fun q => (nil? q.2).bind fun _ => (boolD? q.1).bind fun b => cond b (some p.1) none

noncomputable def rowInts : D → List Int
  | .tup ds => ds.map fun d => match d with | .int i => i | _ => 0
  | _ => []
noncomputable def lexLt : List Int → List Int → Bool
  | [], [] => false
  | [], _ :: _ => true
  | _ :: _, [] => false
  | a :: as, b :: bs => if a == b then lexLt as bs else decide (a < b)
noncomputable def insRow (d : D) : List D → List D
  | [] => [d]
  | e :: es => if lexLt (rowInts d) (rowInts e) then d :: e :: es else e :: insRow d es
noncomputable def sortRows (ds : List D) : List D := ds.foldr insRow []

noncomputable def rowD (r : List Int) : D := .tup (r.map .int)

/-! ## a set of rows, its table: by the model's own table functions -/
noncomputable def rowHash (r : List Int) : Int := reduceHash (Builtin.Tuple.tupleHashOf (r.map hashInt))
/-- the search: none: there; some: a free slot -/
noncomputable def searchP (t : SetTable) (es : Array (Int × List Int)) (h : Int) (row : List Int) : Nat → Option SetTable.Probe → Option (Option Nat)
  | 0, _ => none
  | n + 1, stand => match t.probe (fun i => (es[i]?.map (·.1)).getD 0) h (stand.getD (t.probeStart h)) with
    | some (.empty j none) => some (some j)
    | some (.candidate j i next) => (match es[i]? with
      | some y => if y.2 = row then some none else if t.slot j = .live i then searchP t es h row n (some next) else none
      | none => none)
    | _ => none
abbrev PSet := Array (Int × List Int) × SetTable
noncomputable def addP (st : PSet) (row : List Int) : Option PSet :=
  if st.2.gaveWay then none else
  match searchP st.2 st.1 (rowHash row) row 30 none with
  | none => none
  | some none => some st
  | some (some slot) =>
    let q := st.2.put slot
    let es := SetTable.insertAt st.1 q.2 (rowHash row, row)
    if !q.1.fits es.size then none else
    if q.1.tooFull then
      if SetTable.sizeAbove (SetTable.grown (st.1.size + 1)) > 64 then none else
      match q.1.relaid (es.map (·.1)) (SetTable.grown (st.1.size + 1)) with
      | some (t', order) => if (order.filterMap (es[·]?)).size = es.size ∧ t'.fits es.size = true then some (order.filterMap (es[·]?), t') else none
      | none => none
    else some (es, q.1)
noncomputable def addsP : List (List Int) → PSet → Option PSet
  | [], st => some st
  | r :: rs, st => (addP st r).bind (addsP rs)
/-- where a walk by slots stands when it has given i elements -/
noncomputable def slotOf (t : SetTable) : Nat → Nat
  | 0 => 0
  | i + 1 => t.place.getD i 0 + 1
noncomputable def walkOK (t : SetTable) (n : Nat) : Bool := (List.range (n + 1)).all fun i => SetTable.below t.place (slotOf t i) == i
noncomputable def setRun (led : Bool) (rs : List (List Int)) : Option (List (List Int)) :=
  (addsP rs (#[], .fresh 0 0 led)).bind fun st => if walkOK st.2 st.1.size && st.2.plain && st.2.led == led && decide (st.1.size < 64) && (st.1.toList.map (·.2)).Nodup then some (st.1.toList.map (·.2)) else none
/-- its rows, as they stand in the table -/
noncomputable def setRows (rs : List (List Int)) : Option (List (List Int)) :=
  (setRun true rs).bind fun a => if setRun false rs = some a then some a else none

abbrev Tab := Str → List V → Nat → Option (V × Nat)

noncomputable def consts : Const → Option D
  | .int i => some (.int i)
  | .str x => some (.str x)
  | .bool b => some (.bool b)
  | .none => some .none
  | _ => none

/-- a comprehension's table of names that is served, beneath a block with the names nm -/
noncomputable def scOK (nm : Names) (sc : Scope) : Bool :=
  sc.kind == .function && sc.names.all fun y => y.2 != .cell && (y.2 != .local || sc.names.lookup y.1 == some .local) &&
    (y.2 != .free || nm.lookup y.1 == some .cell || nm.lookup y.1 == some .free) && !(y.1 == ("__debug__" : Str)) && !(y.1 == ("__classdict__" : Str))

noncomputable def bindAll (nm : Names) : List Expr → List D → Rho → Option Rho
  | [], ds, ρ => (nil? ds).bind fun _ => some ρ
  | e :: es, ds, ρ => (name? e).bind fun x => (cons? ds).bind fun d => cond (stor nm x.1) (bindAll nm es d.2 (setName ρ x.1 (.d d.1))) none
noncomputable def bindT (nm : Names) (t : Expr) (d : D) (ρ : Rho) : Option Rho :=
  oc (tuple? t) ((name? t).bind fun x => cond (stor nm x.1) (some (setName ρ x.1 (.d d))) none) fun tt => (iterD d).bind fun ds => bindAll nm tt.1 ds ρ
noncomputable def freshN (ρ : Rho) (e : Expr) : Bool := oc (name? e) false fun x => isN (ρ.lookup x.1)
/-- a target none of whose names is bound yet -/
noncomputable def freshT (t : Expr) (ρ : Rho) : Bool := oc (tuple? t) (freshN ρ t) fun tt => tt.1.all (freshN ρ)
noncomputable def cStr? : Const → Option Str
  | .str x => some x
  | _ => none
noncomputable def Rho.plain? : List V → Option (List D)
  | [] => some []
  | v :: vs => (dOf? v).bind fun x => (Rho.plain? vs).bind fun l => some (x :: l)

noncomputable def strs? : List (Option Expr) → Option (List Str)
  | [] => some []
  | o :: r => (o.bind fun e => (const? e).bind cStr?).bind fun y => (strs? r).bind fun l => some (y :: l)

/-- fold over items: a comprehension's loop -/
noncomputable def overC (f : D → Nat → Option (List D × Nat)) : List D → Nat → Option (List D × Nat)
  | [], σ => some ([], σ)
  | d :: ds, σ => (f d σ).bind fun x => (overC f ds x.2).bind fun y => some (x.1 ++ y.1, y.2)

inductive Fl where
  | next (ρ : Rho)
  | ret (v : V)

noncomputable def overF (f : D → Rho → Nat → Option (Fl × Nat)) : List D → Rho → Nat → Option (Fl × Nat)
  | [], ρ, σ => some (.next ρ, σ)
  | d :: ds, ρ, σ => (f d ρ σ).bind fun r => match r.1 with
    | .next ρ' => overF f ds ρ' r.2
    | .ret v => some (.ret v, r.2)

/-- two names as targets, two expressions as their values -/
noncomputable def pair? (ts : List Expr) (e : Expr) : Option (Str × Str × Expr × Expr) :=
  (two? ts).bind fun t => (name? t.1).bind fun x => (name? t.2).bind fun y => (tuple? e).bind fun es => (two? es.1).bind fun q => some (x.1, y.1, q.1, q.2)
noncomputable def cutV (l h : Option Int) : D → Option D
  | .tup ds => some (.tup (cut ds l h))
  | .list ds => some (.list (cut ds l h))
  | _ => none
noncomputable def attrV (k : Int) (rels : List D) (m : Str) (σ : Nat) : Option (V × Nat) :=
  if m == ("many" : Str) then some (.d (.int k), σ) else if m == ("instance" : Str) then some (.d (.list rels), σ) else if meths.contains m then some (.meth k rels m, σ) else none

section
variable (T : Tab) (G : Str → Option V)
noncomputable def callV (vs : List V) (σ : Nat) : V → Option (V × Nat)
  | .fn x => T x vs σ
  | .meth k rels m => if meths.contains m then T (("Evaluator." : Str) ++ m) (.ev k rels :: vs) σ else none
  | _ => none
noncomputable def nameV (x : Str) (ρ : Rho) (σ : Nat) : NameKind → Option (V × Nat)
  | .globalImplicit => (G x).bind fun v => some (v, σ)
  | .local => (ρ.lookup x).bind fun v => some (v, σ)
  | .cell => (ρ.lookup x).bind fun v => some (v, σ)
  | .free => (ρ.lookup x).bind fun v => some (v, σ)
  | _ => none

mutual
noncomputable def ev : Nat → Names → Expr → Rho → Nat → Option (V × Nat)
  | 0, _, _, _, _ => none
  | n + 1, nm, e, ρ, σ => match e with
    | .Constant c _ _ => (consts c).bind fun d => some (.d d, σ)
    | .Name x _ => (nm.lookup x).bind fun k => nameV G x ρ σ k
    | .BinOp l op r _ => (ev n nm l ρ σ).bind fun x => (dOf? x.1).bind fun a => (ev n nm r ρ x.2).bind fun y => (dOf? y.1).bind fun b => (binD op a b).bind fun d => some (.d d, y.2)
    | .UnaryOp op x _ => match op with
      | .USub => (negInt? x).bind fun i => some (.d (.int (-i)), σ)
      | .Not => (ev n nm x ρ σ).bind fun y => (truth? y.1).bind fun b => some (.d (.bool (!b)), y.2)
      | _ => none
    | .IfExp t a b _ => (tst n nm t ρ σ).bind fun c => cond c.1 (ev n nm a ρ c.2) (ev n nm b ρ c.2)
    | .BoolOp op es _ => (two? es).bind fun ab => (ev n nm ab.1 ρ σ).bind fun x => (truth? x.1).bind fun c => match op with
      | .And => cond c (ev n nm ab.2 ρ x.2) (some x)
      | .Or => cond c (some x) (ev n nm ab.2 ρ x.2)
    | .Compare l ops rs _ => (one? ops).bind fun op => (one? rs).bind fun r => (ev n nm l ρ σ).bind fun x => (ev n nm r ρ x.2).bind fun y => (cmpV op x.1 y.1).bind fun c => some (.d (.bool c), y.2)
    | .Call f args kws p => (nil? kws).bind fun _ => (cons? args).bind fun aa => oc (attr? f)
      ((name? f).bind fun g => (ev n nm (.Name g.1 g.2) ρ σ).bind fun fv => (evs n nm (aa.1 :: aa.2) ρ fv.2).bind fun vs => callV T vs.1 vs.2 fv.1)
      fun omq => (name? omq.1).bind fun x => (ev n nm (.Name x.1 x.2) ρ σ).bind fun e => (evOf? e.1).bind fun kr => (evs n nm (aa.1 :: aa.2) ρ e.2).bind fun vs =>
        cond (meths.contains omq.2.1 && omq.2.2.endLine == p.line && decide (aa.2.length < 20)) (T (("Evaluator." : Str) ++ omq.2.1) (.ev kr.1 kr.2 :: vs.1) vs.2) none
    | .Attribute o m _ => (name? o).bind fun x => (ev n nm (.Name x.1 x.2) ρ σ).bind fun e => (evOf? e.1).bind fun kr => attrV kr.1 kr.2 m e.2
    | .Subscript e i _ => oc (dict? e)
      ((ev n nm e ρ σ).bind fun a => oc (slice? i)
        ((ev n nm i ρ a.2).bind fun b => (subV b.2 a.1 b.1).bind fun v => some (v, b.2))
        fun lh => (dOf? a.1).bind fun x => cond (isN lh.2.2.1) ((evO n nm lh.1 ρ a.2).bind fun l => (evO n nm lh.2.1 ρ l.2).bind fun h => (cutV l.1 h.1 x).bind fun d => some (.d d, h.2)) none)
      fun kv => (evs n nm kv.2.1 ρ σ).bind fun xs => (ev n nm i ρ xs.2).bind fun w => (dOf? w.1).bind fun x => (strD? x).bind fun x => (strs? kv.1).bind fun ss => (Rho.plain? xs.1).bind fun ds =>
        if ss.length = ds.length ∧ ss.length ≤ 15 ∧ ss ≠ [] ∧ ss.Nodup then ((ss.zip ds).lookup x).bind fun d => some (V.d d, w.2) else none
    | .Tuple es _ _ => (evs n nm es ρ σ).bind fun vs => (Rho.plain? vs.1).bind fun ds => if ds.length < LIM then some (.d (.tup ds), vs.2) else none
    | .List es _ => (evs n nm es ρ σ).bind fun vs => (Rho.plain? vs.1).bind fun ds => if ds.length < LIM then some (.d (.list ds), vs.2) else none
    | .Dict ks vs _ => (nil? ks).bind fun _ => (nil? vs).bind fun _ => some (.keys [], σ)
    | .ListComp elt gs sc _ => (cons? gs).bind fun g => cond (g.1.is_async == 0 && (scOK nm sc && freshT g.1.target (ρ.filter fun p => sc.names.lookup p.1 == some .free) && g.2.all (fun g => g.is_async == 0)))
      ((evI n nm g.1.target g.1.iter ρ σ).bind fun items => (overC (fun d s => (bindT sc.names g.1.target d (ρ.filter fun p => sc.names.lookup p.1 == some .free)).bind fun ρ₁ => (tsts n sc.names g.1.ifs ρ₁ s).bind fun ok =>
        cond ok.1 (evC n sc.names elt g.2 ρ₁ ok.2) (some ([], ok.2))) items.1 items.2).bind fun ds => if ds.1.length < LIM then some (.d (.list ds.1), ds.2) else none) none
    | _ => none
termination_by structural x => x
noncomputable def evC : Nat → Names → Expr → List Comprehension → Rho → Nat → Option (List D × Nat)
  | 0, _, _, _, _, _ => none
  | n + 1, nm, elt, gs, ρ, σ => oc (cons? gs) ((ev n nm elt ρ σ).bind fun x => (dOf? x.1).bind fun d => some ([d], x.2))
    fun g => cond (g.1.is_async == 0 && freshT g.1.target ρ) ((evI n nm g.1.target g.1.iter ρ σ).bind fun items => overC (fun d s => (bindT nm g.1.target d ρ).bind fun ρ₁ => (tsts n nm g.1.ifs ρ₁ s).bind fun ok =>
        cond ok.1 (evC n nm elt g.2 ρ₁ ok.2) (some ([], ok.2))) items.1 items.2) none
termination_by structural x => x
noncomputable def evI : Nat → Names → Expr → Expr → Rho → Nat → Option (List D × Nat)
  | 0, _, _, _, _, _ => none
  | n + 1, nm, t, e, ρ, σ => oc (call? e) ((ev n nm e ρ σ).bind fun v => (iterV v.1).bind fun ds => some (ds, v.2))
    fun c => oc (attr? c.1)
      (oc (one? c.2.1) ((ev n nm e ρ σ).bind fun v => (iterV v.1).bind fun ds => some (ds, v.2)) fun a => (nil? c.2.2.1).bind fun _ => (name? c.1).bind fun f => (ev n nm (.Name f.1 f.2) ρ σ).bind fun fv => (fnOf? fv.1).bind fun g => cond (g == ("range" : Str))
        ((ev n nm a ρ fv.2).bind fun v => (dOf? v.1).bind fun x => (intD? x).bind fun i => if 0 ≤ i ∧ i < 1000 then some ((List.range i.toNat).map fun (i : Nat) => D.int i, v.2) else none)
        (cond (g == ("enumerate" : Str) && isTup t) ((ev n nm a ρ fv.2).bind fun v => (iterV v.1).bind fun ds => some (ds.zipIdx.map fun p => D.tup [.int p.2, p.1], v.2))
          ((ev n nm e ρ σ).bind fun v => (iterV v.1).bind fun ds => some (ds, v.2))))
      fun omq => (nil? c.2.2.1).bind fun _ => (name? omq.1).bind fun x => (two? c.2.1).bind fun ab => (list? ab.2).bind fun l => (nil? l.1).bind fun _ => cond (omq.2.1 == ("get" : Str) && omq.2.2.endLine == c.2.2.2.line)
        ((ev n nm (.Name x.1 x.2) ρ σ).bind fun y => (grpOf? y.1).bind fun g => (ev n nm ab.1 ρ y.2).bind fun z => (dOf? z.1).bind fun d => (intD? d).bind fun i => some ((g.lookup i).getD [], z.2)) none
termination_by structural x => x
noncomputable def evs : Nat → Names → List Expr → Rho → Nat → Option (List V × Nat)
  | 0, _, _, _, _ => none
  | n + 1, nm, es, ρ, σ => oc (cons? es) (some ([], σ)) fun e => (ev n nm e.1 ρ σ).bind fun v => (evs n nm e.2 ρ v.2).bind fun vs => some (v.1 :: vs.1, vs.2)
termination_by structural x => x
noncomputable def evO : Nat → Names → Option Expr → Rho → Nat → Option (Option Int × Nat)
  | 0, _, _, _, _ => none
  | n + 1, nm, eo, ρ, σ => oc eo (some (none, σ)) fun e => (ev n nm e ρ σ).bind fun v => (dOf? v.1).bind fun x => (intD? x).bind fun i => some (some i, v.2)
termination_by structural x => x
noncomputable def tst : Nat → Names → Expr → Rho → Nat → Option (Bool × Nat)
  | 0, _, _, _, _ => none
  | n + 1, nm, e, ρ, σ => match e with
    | .BoolOp op es _ => (two? es).bind fun ab => (tst n nm ab.1 ρ σ).bind fun c => match op with
      | .And => cond c.1 (tst n nm ab.2 ρ c.2) (some (false, c.2))
      | .Or => cond c.1 (some (true, c.2)) (tst n nm ab.2 ρ c.2)
    | .UnaryOp op x _ => match op with
      | .Not => (tst n nm x ρ σ).bind fun c => some (!c.1, c.2)
      | _ => none
    | .IfExp t a b _ => (tst n nm t ρ σ).bind fun c => cond c.1 (tst n nm a ρ c.2) (tst n nm b ρ c.2)
    | .Compare l ops rs _ => (one? ops).bind fun op => (one? rs).bind fun r => (ev n nm l ρ σ).bind fun x => (ev n nm r ρ x.2).bind fun y => (cmpV op x.1 y.1).bind fun c => some (c, y.2)
    | e => (ev n nm e ρ σ).bind fun v => (truth? v.1).bind fun b => some (b, v.2)
termination_by structural x => x
noncomputable def tsts : Nat → Names → List Expr → Rho → Nat → Option (Bool × Nat)
  | 0, _, _, _, _ => none
  | n + 1, nm, es, ρ, σ => oc (cons? es) (some (true, σ)) fun e => (tst n nm e.1 ρ σ).bind fun c => cond c.1 (tsts n nm e.2 ρ c.2) (some (false, c.2))
termination_by structural x => x
end

mutual
noncomputable def ex : Nat → Names → Stmt → Rho → Nat → Option (Fl × Nat)
  | 0, _, _, _, _ => none
  | n + 1, nm, st, ρ, σ => match st with
    | .Assign ts e _ => (one? ts).bind fun t => oc (tuple? t)
      ((name? t).bind fun x => (ev T G n nm e ρ σ).bind fun v => cond (stor nm x.1) (some (.next (setName ρ x.1 v.1), v.2)) none)
      fun tt => oc (pair? tt.1 e)
        (cond (isTup e) none ((ev T G n nm e ρ σ).bind fun v => (dOf? v.1).bind fun d => (bindT nm (.Tuple tt.1 tt.2.1 tt.2.2) d ρ).bind fun ρ₁ => some (.next ρ₁, v.2)))
        fun z => (ev T G n nm z.2.2.1 ρ σ).bind fun v => (ev T G n nm z.2.2.2 ρ v.2).bind fun w =>
          cond (stor nm z.1 && stor nm z.2.1 && z.1 != z.2.1 && !([z.2.2.1, z.2.2.2].all (constantsAlone 8))) (some (.next (setName (setName ρ z.1 v.1) z.2.1 w.1), w.2)) none
    | .If t a b _ => (tst T G n nm t ρ σ).bind fun c => cond c.1 (exs n nm a ρ c.2) (exs n nm b ρ c.2)
    | .Return eo _ => eo.bind fun e => (ev T G n nm e ρ σ).bind fun v => some (.ret v.1, v.2)
    | .For t it body orelse _ => (nil? orelse).bind fun _ => (evI T G n nm t it ρ σ).bind fun items => overF (fun d ρ s => (bindT nm t d ρ).bind fun ρ₁ => exs n nm body ρ₁ s) items.1 ρ items.2
    | _ => none
termination_by structural x => x
noncomputable def exs : Nat → Names → List Stmt → Rho → Nat → Option (Fl × Nat)
  | 0, _, _, _, _ => none
  | n + 1, nm, sts, ρ, σ => oc (cons? sts) (some (.next ρ, σ)) fun st => (ex n nm st.1 ρ σ).bind fun r => match r.1 with
    | .next ρ₁ => exs n nm st.2 ρ₁ r.2
    | .ret v => some (.ret v, r.2)
termination_by structural x => x
end
end

/-! ## small lemmas on options -/
section
variable {α β γ : Type} {P : Prop}
theorem nos {a : α} (h : none = some a) : P := nomatch h
theorem fls (h : false = true) : P := nomatch h
theorem bto {x : Option α} {a : α} {f : α → Option β} {r : Option β} (h : x = some a) (k : f a = r) : x.bind f = r := by rw [h]; exact k
theorem bindK {x : Option α} {f : α → Option β} {r : β} (h : x.bind f = some r) (k : ∀ a, x = some a → f a = some r → P) : P := by
  cases x with
  | none => exact nos h
  | some a => exact k a rfl h
theorem oc_n {o : Option α} {b : β} {f : α → β} {r : β} (h : o = none) (k : b = r) : oc o b f = r := by rw [h]; exact k
theorem oc_s {o : Option α} {b : β} {f : α → β} {a : α} {r : β} (h : o = some a) (k : f a = r) : oc o b f = r := by rw [h]; exact k
theorem ocK {o : Option α} {b : β} {f : α → β} {r : β} (h : oc o b f = r) (k1 : o = none → b = r → P) (k2 : ∀ a, o = some a → f a = r → P) : P := by
  cases o with
  | none => exact k1 rfl h
  | some a => exact k2 a rfl h
theorem ct {c : Bool} {a b r : α} (h : c = true) (k : a = r) : cond c a b = r := by rw [h]; exact k
theorem cf {c : Bool} {a b r : α} (h : c = false) (k : b = r) : cond c a b = r := by rw [h]; exact k
theorem condK {c : Bool} {a b r : α} (h : cond c a b = r) (k1 : c = true → a = r → P) (k2 : c = false → b = r → P) : P := by
  cases c with
  | true => exact k1 rfl h
  | false => exact k2 rfl h
theorem condS {c : Bool} {a : Option α} {r : α} (h : cond c a none = some r) (k : c = true → a = some r → P) : P := by
  cases c with
  | true => exact k rfl h
  | false => exact nos h
theorem condN {c : Bool} {a : Option α} {r : α} (h : cond c none a = some r) (k : c = false → a = some r → P) : P := by
  cases c with
  | true => exact nos h
  | false => exact k rfl h
theorem ifp {c : Prop} [Decidable c] {a b r : α} (h : c) (k : a = r) : (if c then a else b) = r := by rw [if_pos h]; exact k
theorem ifS {c : Prop} [Decidable c] {a : Option α} {r : α} (h : (if c then a else none) = some r) (k : c → a = some r → P) : P := by
  by_cases q : c
  · rw [if_pos q] at h; exact k q h
  · rw [if_neg q] at h; exact nos h
theorem ifK {c : Prop} [Decidable c] {a b r : α} (h : (if c then a else b) = r) (k1 : c → a = r → P) (k2 : ¬ c → b = r → P) : P := by
  by_cases q : c
  · rw [if_pos q] at h; exact k1 q h
  · rw [if_neg q] at h; exact k2 q h
theorem andK {a b : Bool} (h : (a && b) = true) (k : a = true → b = true → P) : P := by
  cases a
  · exact fls h
  · exact k rfl h
theorem pairK {a a' : α} {b b' : β} (h : some (a, b) = some (a', b')) (k : a = a' → b = b' → P) : P := by
  cases h; exact k rfl rfl
theorem nil_inv {l : List α} {u : Unit} (h : nil? l = some u) : l = [] := by
  cases l with
  | nil => rfl
  | cons a l => exact nos h
theorem cons_inv {l : List α} {p : α × List α} (h : cons? l = some p) : l = p.1 :: p.2 := by
  cases l with
  | nil => exact nos h
  | cons a l => cases h; rfl
theorem cons_none {l : List α} (h : cons? l = none) : l = [] := by
  cases l with
  | nil => rfl
  | cons a l => exact nos h.symm
theorem one_inv {l : List α} {a : α} (h : one? l = some a) : l = [a] :=
  bindK h fun p h1 h => bindK h fun _ h2 h => by
    cases h
    rw [cons_inv h1, nil_inv h2]
theorem two_inv {l : List α} {p : α × α} (h : two? l = some p) : l = [p.1, p.2] :=
  bindK h fun q h1 h => bindK h fun b h2 h => by
    cases h
    rw [cons_inv h1, one_inv h2]
end
theorem isN_inv {α : Type} {o : Option α} (h : isN o = true) : o = none := by
  cases o with
  | none => rfl
  | some a => exact fls h

theorem dOf_inv {v : V} {d : D} (h : dOf? v = some d) : v = .d d := by
  induction v using V.casesOn <;> first | exact nos h | (exact congrArg V.d (Option.some.inj h))
theorem evOf_inv {v : V} {p : Int × List D} (h : evOf? v = some p) : v = .ev p.1 p.2 := by
  induction v using V.casesOn <;> first | exact nos h | (cases h; rfl)
theorem grpOf_inv {v : V} {g : List (Int × List D)} (h : grpOf? v = some g) : v = .grp g := by
  induction v using V.casesOn <;> first | exact nos h | (exact congrArg V.grp (Option.some.inj h))
theorem fnOf_inv {v : V} {x : Str} (h : fnOf? v = some x) : v = .fn x := by
  induction v using V.casesOn <;> first | exact nos h | (exact congrArg V.fn (Option.some.inj h))
theorem intD_inv {d : D} {i : Int} (h : intD? d = some i) : d = .int i := by
  induction d using D.casesOn <;> first | exact nos h | (exact congrArg D.int (Option.some.inj h))
theorem strD_inv {d : D} {x : Str} (h : strD? d = some x) : d = .str x := by
  induction d using D.casesOn <;> first | exact nos h | (exact congrArg D.str (Option.some.inj h))
theorem boolD_inv {d : D} {b : Bool} (h : boolD? d = some b) : d = .bool b := by
  induction d using D.casesOn <;> first | exact nos h | (exact congrArg D.bool (Option.some.inj h))
theorem cInt_inv {c : Const} {i : Int} (h : cInt? c = some i) : c = .int i := by
  induction c using Const.casesOn <;> first | exact nos h | (exact congrArg Const.int (Option.some.inj h))
theorem cStr_inv {c : Const} {i : Str} (h : cStr? c = some i) : c = .str i := by
  induction c using Const.casesOn <;> first | exact nos h | (exact congrArg Const.str (Option.some.inj h))
theorem const_inv {e : Expr} {c : Const} (h : const? e = some c) : ∃ k p, e = .Constant c k p := by
  induction e using Expr.casesOn <;> first | exact nos h | (cases h; exact ⟨_, _, rfl⟩)
theorem name_inv {e : Expr} {x : Str × Pos} (h : name? e = some x) : e = .Name x.1 x.2 := by
  induction e using Expr.casesOn <;> first | exact nos h | (cases h; rfl)
theorem attr_inv {e : Expr} {x : Expr × Str × Pos} (h : attr? e = some x) : e = .Attribute x.1 x.2.1 x.2.2 := by
  induction e using Expr.casesOn <;> first | exact nos h | (cases h; rfl)
theorem dict_inv {e : Expr} {x : List (Option Expr) × List Expr × Pos} (h : dict? e = some x) : e = .Dict x.1 x.2.1 x.2.2 := by
  induction e using Expr.casesOn <;> first | exact nos h | (cases h; rfl)
theorem slice_inv {e : Expr} {x : Option Expr × Option Expr × Option Expr × Pos} (h : slice? e = some x) : e = .Slice x.1 x.2.1 x.2.2.1 x.2.2.2 := by
  induction e using Expr.casesOn <;> first | exact nos h | (cases h; rfl)
theorem tuple_inv {e : Expr} {x : List Expr × Nat × Pos} (h : tuple? e = some x) : e = .Tuple x.1 x.2.1 x.2.2 := by
  induction e using Expr.casesOn <;> first | exact nos h | (cases h; rfl)
theorem list_inv {e : Expr} {x : List Expr × Pos} (h : list? e = some x) : e = .List x.1 x.2 := by
  induction e using Expr.casesOn <;> first | exact nos h | (cases h; rfl)
theorem call_inv {e : Expr} {x : Expr × List Expr × List Keyword × Pos} (h : call? e = some x) : e = .Call x.1 x.2.1 x.2.2.1 x.2.2.2 := by
  induction e using Expr.casesOn <;> first | exact nos h | (cases h; rfl)
theorem pair_inv {ts : List Expr} {e : Expr} {z : Str × Str × Expr × Expr} (h : pair? ts e = some z) : ∃ px py k p, ts = [.Name z.1 px, .Name z.2.1 py] ∧ e = .Tuple [z.2.2.1, z.2.2.2] k p :=
  bindK h fun _ h1 h => bindK h fun x h2 h => bindK h fun y h3 h => bindK h fun t h4 h => bindK h fun _ h5 h => by
    cases h
    refine ⟨x.2, y.2, t.2.1, t.2.2, ?_, ?_⟩
    · rw [two_inv h1, name_inv h2, name_inv h3]
    · rw [tuple_inv h4, two_inv h5]

structure Def where
  params : List Str
  body : List Stmt
  names : Names

noncomputable def defOf : Stmt → Option (Str × Def)
  | .FunctionDef name args body _ _ _ sc _ _ _ => some (name, ⟨args.args.map (·.arg), body, sc.names⟩)
  | _ => none
/-- the program's defs, a class's under its name and a dot -/
noncomputable def defsOf : List Stmt → List (Str × Def)
  | [] => []
  | .ClassDef c _ _ body _ _ _ _ _ _ _ :: r => (body.filterMap defOf).map (fun p => (c ++ ("." : Str) ++ p.1, p.2)) ++ defsOf r
  | .FunctionDef name args body a b c sc d e f :: r => (defOf (.FunctionDef name args body a b c sc d e f)).toList ++ defsOf r
  | _ :: r => defsOf r

/-- rows beneath their first atoms -/
noncomputable def addG (g : List (Int × List D)) (i : Int) (d : D) : List (Int × List D) :=
  if g.any (fun p => p.1 == i) then g.map (fun p => if p.1 == i then (p.1, p.2 ++ [d]) else p) else g ++ [(i, [d])]
noncomputable def groupFrom : List D → List (Int × List D) → Option (List (Int × List D))
  | [], g => some g
  | d :: ds, g => (tupD? d).bind fun l => (cons? l).bind fun p => (intD? p.1).bind fun i => groupFrom ds (addG g i (.tup p.2))

noncomputable def retOf? : Fl → Option V
  | .ret v => some v
  | .next _ => none
theorem listD_inv {d : D} {ds : List D} (h : listD? d = some ds) : d = .list ds := by
  induction d using D.casesOn <;> first | exact nos h | (exact congrArg D.list (Option.some.inj h))
theorem tupD_inv {d : D} {ds : List D} (h : tupD? d = some ds) : d = .tup ds := by
  induction d using D.casesOn <;> first | exact nos h | (exact congrArg D.tup (Option.some.inj h))
theorem feedOf_inv {v : V} {cs : List Int} (h : feedOf? v = some cs) : v = .feed cs := by
  induction v using V.casesOn <;> first | exact nos h | (exact congrArg V.feed (Option.some.inj h))
theorem keysOf_inv {v : V} {ks : List D} (h : keysOf? v = some ks) : v = .keys ks := by
  induction v using V.casesOn <;> first | exact nos h | (exact congrArg V.keys (Option.some.inj h))
theorem retOf_inv {f : Fl} {v : V} (h : retOf? f = some v) : f = .ret v := by
  cases f with
  | next _ => exact nos h
  | ret _ => exact congrArg Fl.ret (Option.some.inj h)
noncomputable def sortV (σ : Nat) : V → Option (V × Nat)
  | .keys ks => if ks.all isRow1 && decide (ks.length < 64) then some (.d (.list (sortRows ks)), σ) else none
  | .setk ks => if ks.all isRow1 && decide (ks.length < 64) && decide (ks.map rowInts).Nodup then some (.d (.list (sortRows ks)), σ) else none
  | _ => none

/-- built-in functions, and the defs that are shown by hand -/
noncomputable def basic : Tab := fun f vs σ =>
  cond (f == ("len" : Str)) ((one? vs).bind fun v => (iterV v).bind fun ds => some (.d (.int ds.length), σ))
  (cond (f == ("tuple" : Str)) ((one? vs).bind fun v => (dOf? v).bind fun d => (listD? d).bind fun ds => some (.d (.tup ds), σ))
  (cond (f == ("dict" : Str)) ((one? vs).bind fun v => (dOf? v).bind fun d => (listD? d).bind fun ds => (ds.mapM pairKey?).bind fun ks => if ks.all isRow || ks.all isInt then some (.keys (dedup [] ks), σ) else none)
  (cond (f == ("sorted" : Str)) ((one? vs).bind fun v => sortV σ v)
  (cond (f == ("set" : Str)) ((one? vs).bind fun v => (dOf? v).bind fun d => (listD? d).bind fun ds => if ds.all isRow && decide (ds.length < 64) then (setRows (ds.map rowInts)).map fun rs => (V.setk (rs.map rowD), σ) else none)
  (cond (f == ("abs" : Str)) ((one? vs).bind fun v => (dOf? v).bind fun d => (intD? d).bind fun i => some (.d (.int i.natAbs), σ))
  (cond (f == ("int" : Str)) ((one? vs).bind fun v => (dOf? v).bind fun d => (intD? d).bind fun i => some (.d (.int i), σ))
  (cond (f == ("Evaluator" : Str)) ((two? vs).bind fun ab => (dOf? ab.1).bind fun x => (intD? x).bind fun n => (dOf? ab.2).bind fun y => (listD? y).bind fun rels => some (.ev n rels, σ)) none)))))))

noncomputable def FUEL : Nat := 150

noncomputable def glob (x : Str) : Option V :=
  if x == ("MOST_ROWS" : Str) then some (.d (.int 2000000))
  else if x == ("_law_OPS" : Str) then some (.d (.tup [.str "union", .str "meet", .str "minus", .str "join", .str "product", .str "override", .str "ahead", .str "behind"]))
  else if (["len", "tuple", "dict", "sorted", "set", "abs", "int", "range", "enumerate", "Evaluator", "_law_draw", "set_of", "set_of_sets", "union", "meet", "minus", "product", "join", "override", "ahead", "behind",
    "_law_all", "_law_some", "_law_width", "_law_lets", "_law_is_made", "_law_are_kept", "_law_is_so", "_law_are_counted"] : List Str).contains x then some (.fn x)
  else none

/-- the defs that are called -/
noncomputable def NEED : List Str := ["_law_draw", "set_of", "set_of_sets", "union", "meet", "minus", "product", "join", "override", "ahead", "behind", "Evaluator.set_of", "Evaluator.of_two", "Evaluator.truth", "Evaluator.has_many",
  "_law_all", "_law_some", "_law_width", "_law_lets", "_law_is_made", "_law_are_kept", "_law_is_so", "_law_are_counted"]
noncomputable def defName (f : Str) : Str := if f == ("set_of_sets" : Str) then "set_of" else f

noncomputable def retV (o : Option (Fl × Nat)) : Option (V × Nat) := o.bind fun r => (retOf? r.1).bind fun v => (dOf? v).bind fun d => some (.d d, r.2)
/-- what a def gives back; T serves its own calls -/
noncomputable def tabV (T : Tab) (f : Str) (vs : List V) (σ : Nat) (df : Def) : Option (V × Nat) :=
  cond (f == ("join" : Str)) ((two? vs).bind fun ab => (dOf? ab.1).bind fun x => (tupD? x).bind fun s => (dOf? ab.2).bind fun y => (tupD? y).bind fun t => (groupFrom t []).bind fun g =>
    retV (exs T glob FUEL df.names (df.body.drop 2) (("begun", .grp g) :: df.params.zip [.d (.tup s), .d (.tup t)]) σ))
  (cond (f == ("_law_draw" : Str)) ((two? vs).bind fun ab => (feedOf? ab.1).bind fun cs => (dOf? ab.2).bind fun x => (intD? x).bind fun wide => if 0 < wide then
    retV (exs T glob FUEL df.names (df.body.drop 1) (df.params.zip [.feed cs, .d (.int wide)]) (σ + 1)) else none)
  (if df.params.length = vs.length then retV (exs T glob FUEL df.names df.body (df.params.zip vs) σ) else none))
noncomputable def tab (defs : List (Str × Def)) : Nat → Tab
  | 0 => basic
  | k + 1 => fun f vs σ => oc (basic f vs σ) (cond (NEED.contains f) ((defs.lookup (defName f)).bind fun df => tabV (tab defs k) f vs σ df) none) some

noncomputable def DEFS := defsOf PySem.Challenge.pw_rr0085_01.main.body
noncomputable def lawD : Def := ((DEFS.lookup ("law" : Str)).getD ⟨[], [], []⟩)
noncomputable def runLaw (cells : List Int) : Option (V × Nat) :=
  match exs (tab DEFS 7) glob FUEL lawD.names (lawD.body.drop 1) [(("feed" : Str), .feed cells)] 0 with
  | some (.ret v, σ') => some (v, σ')
  | _ => none
noncomputable def cellsOf (script : List Int) : List Int := (script.take 24).map fun c => (c.natAbs : Int) % 1000003

end Mine

end

section
open PySem
namespace Mine

/-! ## the evaluator by rules -/
section
variable {T : Tab} {n : Nat} {nm : Names} {ρ ρ₁ : Rho} {σ σ₁ σ₂ σ₃ : Nat}

theorem r_int {i : Int} {k : Nat} {p : Pos} : ev T glob (n + 1) nm (.Constant (.int i) k p) ρ σ = some (.d (.int i), σ) := rfl
theorem r_str {x : Str} {k : Nat} {p : Pos} : ev T glob (n + 1) nm (.Constant (.str x) k p) ρ σ = some (.d (.str x), σ) := rfl
theorem r_bool {b : Bool} {k : Nat} {p : Pos} : ev T glob (n + 1) nm (.Constant (.bool b) k p) ρ σ = some (.d (.bool b), σ) := rfl
theorem r_loc {x : Str} {p : Pos} {v : V} (hk : nm.lookup x = some .local) (h : ρ.lookup x = some v) : ev T glob (n + 1) nm (.Name x p) ρ σ = some (v, σ) := bto hk (bto h rfl)
theorem r_cell {x : Str} {p : Pos} {v : V} (hk : nm.lookup x = some .cell) (h : ρ.lookup x = some v) : ev T glob (n + 1) nm (.Name x p) ρ σ = some (v, σ) := bto hk (bto h rfl)
theorem r_free {x : Str} {p : Pos} {v : V} (hk : nm.lookup x = some .free) (h : ρ.lookup x = some v) : ev T glob (n + 1) nm (.Name x p) ρ σ = some (v, σ) := bto hk (bto h rfl)
theorem r_glob {x : Str} {p : Pos} {v : V} (hk : nm.lookup x = some .globalImplicit) (h : glob x = some v) : ev T glob (n + 1) nm (.Name x p) ρ σ = some (v, σ) := bto hk (bto h rfl)
theorem r_bin {l r : Expr} {op : Operator} {p : Pos} {a b d : D} (h1 : ev T glob n nm l ρ σ = some (.d a, σ₁)) (h2 : ev T glob n nm r ρ σ₁ = some (.d b, σ₂)) (h3 : binD op a b = some d) :
    ev T glob (n + 1) nm (.BinOp l op r p) ρ σ = some (.d d, σ₂) := bto h1 (bto rfl (bto h2 (bto rfl (bto h3 rfl))))
theorem r_neg {i : Int} {k : Nat} {p q : Pos} : ev T glob (n + 1) nm (.UnaryOp .USub (.Constant (.int i) k p) q) ρ σ = some (.d (.int (-i)), σ) := rfl
theorem r_not {x : Expr} {q : Pos} {b : Bool} (h : ev T glob n nm x ρ σ = some (.d (.bool b), σ₁)) : ev T glob (n + 1) nm (.UnaryOp .Not x q) ρ σ = some (.d (.bool (!b)), σ₁) := bto h rfl
theorem r_if_t {t a b : Expr} {p : Pos} {r : Option (V × Nat)} (h : tst T glob n nm t ρ σ = some (true, σ₁)) (h1 : ev T glob n nm a ρ σ₁ = r) : ev T glob (n + 1) nm (.IfExp t a b p) ρ σ = r := bto h h1
theorem r_if_f {t a b : Expr} {p : Pos} {r : Option (V × Nat)} (h : tst T glob n nm t ρ σ = some (false, σ₁)) (h1 : ev T glob n nm b ρ σ₁ = r) : ev T glob (n + 1) nm (.IfExp t a b p) ρ σ = r := bto h h1
theorem r_and {a b : Expr} {p : Pos} {c d : Bool} (h : ev T glob n nm a ρ σ = some (.d (.bool c), σ)) (h1 : c = true → ev T glob n nm b ρ σ = some (.d (.bool d), σ)) : ev T glob (n + 1) nm (.BoolOp .And [a, b] p) ρ σ = some (.d (.bool (c && d)), σ) := by
  refine bto h (bto rfl ?_)
  cases c
  · rfl
  · exact h1 rfl
theorem r_or {a b : Expr} {p : Pos} {c d : Bool} (h : ev T glob n nm a ρ σ = some (.d (.bool c), σ)) (h1 : c = false → ev T glob n nm b ρ σ = some (.d (.bool d), σ)) : ev T glob (n + 1) nm (.BoolOp .Or [a, b] p) ρ σ = some (.d (.bool (c || d)), σ) := by
  refine bto h (bto rfl ?_)
  cases c
  · exact h1 rfl
  · rfl
theorem r_cmp {l r : Expr} {op : CmpOp} {p : Pos} {a b : V} {c : Bool} (h1 : ev T glob n nm l ρ σ = some (a, σ₁)) (h2 : ev T glob n nm r ρ σ₁ = some (b, σ₂)) (h3 : cmpV op a b = some c) :
    ev T glob (n + 1) nm (.Compare l [op] [r] p) ρ σ = some (.d (.bool c), σ₂) := bto h1 (bto h2 (bto h3 rfl))
theorem r_meth {x m : Str} {px q p : Pos} {a : Expr} {args : List Expr} {k : Int} {rels : List D} {vs : List V} {r : Option (V × Nat)} (h3 : (meths.contains m && q.endLine == p.line && decide (args.length < 20)) = true) (h1 : ev T glob n nm (.Name x px) ρ σ = some (.ev k rels, σ₁)) (h2 : evs T glob n nm (a :: args) ρ σ₁ = some (vs, σ₂))
    (h4 : T (("Evaluator." : Str) ++ m) (.ev k rels :: vs) σ₂ = r) : ev T glob (n + 1) nm (.Call (.Attribute (.Name x px) m q) (a :: args) [] p) ρ σ = r :=
  bto h1 (bto rfl (bto h2 (ct h3 h4)))
theorem r_fn {f x : Str} {p q : Pos} {a : Expr} {args : List Expr} {vs : List V} {r : Option (V × Nat)} (h1 : ev T glob n nm (.Name f p) ρ σ = some (.fn x, σ₁)) (h2 : evs T glob n nm (a :: args) ρ σ₁ = some (vs, σ₂)) (h3 : T x vs σ₂ = r) :
    ev T glob (n + 1) nm (.Call (.Name f p) (a :: args) [] q) ρ σ = r := bto h1 (bto h2 h3)
theorem r_bound {f m : Str} {p q : Pos} {a : Expr} {args : List Expr} {k : Int} {rels : List D} {vs : List V} {r : Option (V × Nat)} (hm : meths.contains m = true) (h1 : ev T glob n nm (.Name f p) ρ σ = some (.meth k rels m, σ₁)) (h2 : evs T glob n nm (a :: args) ρ σ₁ = some (vs, σ₂))
    (h3 : T (("Evaluator." : Str) ++ m) (.ev k rels :: vs) σ₂ = r) :
    ev T glob (n + 1) nm (.Call (.Name f p) (a :: args) [] q) ρ σ = r := bto h1 (bto h2 (ifp hm h3))
theorem r_many {x : Str} {p q : Pos} {k : Int} {rels : List D} (h1 : ev T glob n nm (.Name x p) ρ σ = some (.ev k rels, σ₁)) : ev T glob (n + 1) nm (.Attribute (.Name x p) ("many" : Str) q) ρ σ = some (.d (.int k), σ₁) := bto h1 rfl
theorem r_inst {x : Str} {p q : Pos} {k : Int} {rels : List D} (h1 : ev T glob n nm (.Name x p) ρ σ = some (.ev k rels, σ₁)) : ev T glob (n + 1) nm (.Attribute (.Name x p) ("instance" : Str) q) ρ σ = some (.d (.list rels), σ₁) := bto h1 rfl
theorem r_attr {x m : Str} {p q : Pos} {k : Int} {rels : List D} (hm3 : meths.contains m = true) (hm2 : (m == ("instance" : Str)) = false) (hm : (m == ("many" : Str)) = false) (h1 : ev T glob n nm (.Name x p) ρ σ = some (.ev k rels, σ₁)) : ev T glob (n + 1) nm (.Attribute (.Name x p) m q) ρ σ = some (.meth k rels m, σ₁) := by
  refine bto h1 (bto rfl ?_)
  show attrV k rels m σ₁ = _
  unfold attrV
  rw [if_neg (by rw [hm]; exact Bool.false_ne_true), if_neg (by rw [hm2]; exact Bool.false_ne_true), if_pos hm3]
theorem r_dictsub {ks : List (Option Expr)} {vs : List Expr} {w : Expr} {p q : Pos} {xs : List V} {x : Str} {ss : List Str} {ds : List D} {d : D} (h1 : evs T glob n nm vs ρ σ = some (xs, σ₁)) (h2 : ev T glob n nm w ρ σ₁ = some (.d (.str x), σ₂)) (h3 : strs? ks = some ss) (h4 : Rho.plain? xs = some ds)
    (h5 : decide (ss.length = ds.length ∧ ss.length ≤ 15 ∧ ss ≠ [] ∧ ss.Nodup) = true) (h6 : (ss.zip ds).lookup x = some d) : ev T glob (n + 1) nm (.Subscript (.Dict ks vs p) w q) ρ σ = some (.d d, σ₂) :=
  bto h1 (bto h2 (bto rfl (bto rfl (bto h3 (bto h4 (ifp (of_decide_eq_true h5) (bto h6 rfl)))))))

/-- what is sliced or indexed -/
noncomputable def noDict (e : Expr) : Bool := isN (dict? e)
noncomputable def noSlice (e : Expr) : Bool := isN (slice? e)
theorem r_cut_t {e : Expr} {lo hi : Option Expr} {p q : Pos} {ds : List D} {l h : Option Int} (hn : noDict e = true) (h1 : ev T glob n nm e ρ σ = some (.d (.tup ds), σ₁)) (h2 : evO T glob n nm lo ρ σ₁ = some (l, σ₂)) (h3 : evO T glob n nm hi ρ σ₂ = some (h, σ₃)) :
    ev T glob (n + 1) nm (.Subscript e (.Slice lo hi none p) q) ρ σ = some (.d (.tup (cut ds l h)), σ₃) := oc_n (isN_inv hn) (bto h1 (bto h2 (bto h3 rfl)))
theorem r_item {e i : Expr} {q : Pos} {a b v : V} (hn : noDict e = true) (hs : noSlice i = true) (h1 : ev T glob n nm e ρ σ = some (a, σ₁)) (h2 : ev T glob n nm i ρ σ₁ = some (b, σ₂)) (h3 : subV σ₂ a b = some v) :
    ev T glob (n + 1) nm (.Subscript e i q) ρ σ = some (v, σ₂) := oc_n (isN_inv hn) (bto h1 (oc_n (isN_inv hs) (bto h2 (bto h3 rfl))))
theorem r_tup {es : List Expr} {k : Nat} {p : Pos} {vs : List V} {ds : List D} (h1 : evs T glob n nm es ρ σ = some (vs, σ₁)) (h2 : Rho.plain? vs = some ds) (h3 : ds.length < LIM) : ev T glob (n + 1) nm (.Tuple es k p) ρ σ = some (.d (.tup ds), σ₁) := bto h1 (bto h2 (ifp h3 rfl))
theorem r_list {es : List Expr} {p : Pos} {vs : List V} {ds : List D} (h1 : evs T glob n nm es ρ σ = some (vs, σ₁)) (h2 : Rho.plain? vs = some ds) (h3 : ds.length < LIM) : ev T glob (n + 1) nm (.List es p) ρ σ = some (.d (.list ds), σ₁) := bto h1 (bto h2 (ifp h3 rfl))
theorem r_dict0 {p : Pos} : ev T glob (n + 1) nm (.Dict [] [] p) ρ σ = some (.keys [], σ) := rfl

noncomputable def bodyC (T : Tab) (n : Nat) (nm : Names) (t : Expr) (ifs : List Expr) (elt : Expr) (gs : List Comprehension) (ρ : Rho) (d : D) (s : Nat) : Option (List D × Nat) :=
  (bindT nm t d ρ).bind fun ρ₁ => (tsts T glob n nm ifs ρ₁ s).bind fun ok => cond ok.1 (evC T glob n nm elt gs ρ₁ ok.2) (some ([], ok.2))
theorem r_comp {elt t it : Expr} {ifs : List Expr} {gs : List Comprehension} {sc : Scope} {p : Pos} {items ds : List D} (hc : (scOK nm sc && freshT t (ρ.filter fun p => sc.names.lookup p.1 == some .free) && gs.all (fun g => g.is_async == 0)) = true)
    (h1 : evI T glob n nm t it ρ σ = some (items, σ₁)) (h2 : overC (bodyC T n sc.names t ifs elt gs (ρ.filter fun p => sc.names.lookup p.1 == some .free)) items σ₁ = some (ds, σ₂)) (h3 : ds.length < LIM) :
    ev T glob (n + 1) nm (.ListComp elt (⟨t, it, ifs, 0⟩ :: gs) sc p) ρ σ = some (.d (.list ds), σ₂) :=
  ct hc (bto h1 (bto h2 (ifp h3 rfl)))
theorem r_body {t elt : Expr} {ifs : List Expr} {gs : List Comprehension} {d : D} {c : Bool} {xs : List D} (h1 : bindT nm t d ρ = some ρ₁) (h2 : tsts T glob n nm ifs ρ₁ σ = some (c, σ)) (h3 : c = true → evC T glob n nm elt gs ρ₁ σ = some (xs, σ)) :
    bodyC T n nm t ifs elt gs ρ d σ = some (if c then xs else [], σ) := by
  refine bto h1 (bto h2 ?_)
  cases c
  · rfl
  · exact h3 rfl
/-- without a test; the element may draw -/
theorem r_body0 {t elt : Expr} {gs : List Comprehension} {d : D} {r : Option (List D × Nat)} (h1 : bindT nm t d ρ = some ρ₁) (h3 : evC T glob (n + 1) nm elt gs ρ₁ σ = r) :
    bodyC T (n + 1) nm t [] elt gs ρ d σ = r := bto h1 h3
theorem r_tsts0 : tsts T glob (n + 1) nm [] ρ σ = some (true, σ) := rfl
theorem r_tsts1 {e : Expr} {c : Bool} (h : tst T glob n nm e ρ σ = some (c, σ)) : tsts T glob (n + 1) nm [e] ρ σ = some (c, σ) := by
  cases n with
  | zero => exact nos h
  | succ n =>
    refine bto h ?_
    cases c <;> rfl
theorem r_evC0 {elt : Expr} {d : D} (h : ev T glob n nm elt ρ σ = some (.d d, σ₁)) : evC T glob (n + 1) nm elt [] ρ σ = some ([d], σ₁) := bto h rfl
theorem r_evC1 {elt t it : Expr} {ifs : List Expr} {gs : List Comprehension} {items ds : List D} (hf : freshT t ρ = true) (h1 : evI T glob n nm t it ρ σ = some (items, σ₁)) (h2 : overC (bodyC T n nm t ifs elt gs ρ) items σ₁ = some (ds, σ₂)) :
    evC T glob (n + 1) nm elt (⟨t, it, ifs, 0⟩ :: gs) ρ σ = some (ds, σ₂) := ct (c := freshT t ρ) hf (bto h1 h2)

/-- what is walked: a range -/
theorem r_range {t a : Expr} {f : Str} {p q : Pos} {i : Int} (h1 : ev T glob n nm (.Name f p) ρ σ = some (.fn "range", σ₁)) (h2 : ev T glob n nm a ρ σ₁ = some (.d (.int i), σ₂)) (h3 : 0 ≤ i ∧ i < 1000) :
    evI T glob (n + 1) nm t (.Call (.Name f p) [a] [] q) ρ σ = some ((List.range i.toNat).map fun (i : Nat) => D.int i, σ₂) := bto h1 (bto rfl (ct rfl (bto h2 (bto rfl (bto rfl (ifp h3 rfl))))))
theorem r_enum {t a : Expr} {f : Str} {p q : Pos} {v : V} {ds : List D} (ht : isTup t = true) (h1 : ev T glob n nm (.Name f p) ρ σ = some (.fn "enumerate", σ₁)) (h2 : ev T glob n nm a ρ σ₁ = some (v, σ₂)) (h3 : iterV v = some ds) :
    evI T glob (n + 1) nm t (.Call (.Name f p) [a] [] q) ρ σ = some (ds.zipIdx.map fun p => D.tup [.int p.2, p.1], σ₂) := bto h1 (bto rfl (cf rfl (ct ht (bto h2 (bto h3 rfl)))))
theorem r_get {t a : Expr} {x m : Str} {px q p pl : Pos} {g : List (Int × List D)} {i : Int} (hm : (m == ("get" : Str) && q.endLine == p.line) = true) (h1 : ev T glob n nm (.Name x px) ρ σ = some (.grp g, σ₁)) (h2 : ev T glob n nm a ρ σ₁ = some (.d (.int i), σ₂)) :
    evI T glob (n + 1) nm t (.Call (.Attribute (.Name x px) m q) [a, .List [] pl] [] p) ρ σ = some ((g.lookup i).getD [], σ₂) := ct hm (bto h1 (bto rfl (bto h2 rfl)))
noncomputable def noCall (e : Expr) : Bool := isN (call? e)
theorem r_iter {t e : Expr} {v : V} {ds : List D} (hc : noCall e = true) (h1 : ev T glob n nm e ρ σ = some (v, σ₁)) (h2 : iterV v = some ds) : evI T glob (n + 1) nm t e ρ σ = some (ds, σ₁) := oc_n (isN_inv hc) (bto h1 (bto h2 rfl))
theorem r_evs0 : evs T glob (n + 1) nm [] ρ σ = some ([], σ) := rfl
theorem r_evs1 {e : Expr} {es : List Expr} {v : V} {vs : List V} (h1 : ev T glob n nm e ρ σ = some (v, σ₁)) (h2 : evs T glob n nm es ρ σ₁ = some (vs, σ₂)) : evs T glob (n + 1) nm (e :: es) ρ σ = some (v :: vs, σ₂) := bto h1 (bto h2 rfl)
theorem r_evO0 : evO T glob (n + 1) nm none ρ σ = some (none, σ) := rfl
theorem r_evO1 {e : Expr} {i : Int} (h : ev T glob n nm e ρ σ = some (.d (.int i), σ₁)) : evO T glob (n + 1) nm (some e) ρ σ = some (some i, σ₁) := bto h rfl
theorem t_and {a b : Expr} {p : Pos} {c d : Bool} (h : tst T glob n nm a ρ σ = some (c, σ)) (h1 : c = true → tst T glob n nm b ρ σ = some (d, σ)) : tst T glob (n + 1) nm (.BoolOp .And [a, b] p) ρ σ = some (c && d, σ) := by
  refine bto h ?_
  cases c
  · rfl
  · exact h1 rfl
theorem t_or {a b : Expr} {p : Pos} {c d : Bool} (h : tst T glob n nm a ρ σ = some (c, σ)) (h1 : c = false → tst T glob n nm b ρ σ = some (d, σ)) : tst T glob (n + 1) nm (.BoolOp .Or [a, b] p) ρ σ = some (c || d, σ) := by
  refine bto h ?_
  cases c
  · exact h1 rfl
  · rfl
theorem t_not {x : Expr} {q : Pos} {b : Bool} (h : tst T glob n nm x ρ σ = some (b, σ₁)) : tst T glob (n + 1) nm (.UnaryOp .Not x q) ρ σ = some (!b, σ₁) := bto h rfl
theorem t_cmp {l r : Expr} {op : CmpOp} {p : Pos} {a b : V} {c : Bool} (h1 : ev T glob n nm l ρ σ = some (a, σ₁)) (h2 : ev T glob n nm r ρ σ₁ = some (b, σ₂)) (h3 : cmpV op a b = some c) :
    tst T glob (n + 1) nm (.Compare l [op] [r] p) ρ σ = some (c, σ₂) := bto h1 (bto h2 (bto h3 rfl))
theorem t_call {f : Expr} {as : List Expr} {ks : List Keyword} {p : Pos} {b : Bool} (h : ev T glob n nm (.Call f as ks p) ρ σ = some (.d (.bool b), σ₁)) : tst T glob (n + 1) nm (.Call f as ks p) ρ σ = some (b, σ₁) := bto h rfl
end
end Mine

end

section
open PySem
namespace Mine

section
variable {T : Tab} {n : Nat} {nm : Names} {ρ ρ₁ ρ₂ : Rho} {σ σ₁ σ₂ σ₃ : Nat}

theorem x_assign {x : Str} {p q : Pos} {e : Expr} {v : V} (h : ev T glob n nm e ρ σ = some (v, σ₁)) (hs : stor nm x = true) : ex T glob (n + 1) nm (.Assign [.Name x p] e q) ρ σ = some (.next (setName ρ x v), σ₁) := bto h (ct hs rfl)
theorem x_assign2 {x y : Str} {p p' q q' q'' : Pos} {k k' : Nat} {e₁ e₂ : Expr} {v w : V} (h : ev T glob n nm e₁ ρ σ = some (v, σ₁)) (h2 : ev T glob n nm e₂ ρ σ₁ = some (w, σ₂)) (hs : (stor nm x && stor nm y && x != y && !([e₁, e₂].all (constantsAlone 8))) = true) :
    ex T glob (n + 1) nm (.Assign [.Tuple [.Name x p, .Name y p'] k q] (.Tuple [e₁, e₂] k' q') q'') ρ σ = some (.next (setName (setName ρ x v) y w), σ₂) := bto h (bto h2 (ct hs rfl))
theorem x_assignT {a b c x y : Str} {pa pb pc px py : Pos} {k : Nat} {p q pe : Pos} {elt : Expr} {gs : List Comprehension} {sc : Scope} {d : D} (h : ev T glob n nm (.ListComp elt gs sc pe) ρ σ = some (.d d, σ₁))
    (hb : bindT nm (.Tuple [.Name a pa, .Name b pb, .Name c pc, .Name x px, .Name y py] k p) d ρ = some ρ₁) : ex T glob (n + 1) nm (.Assign [.Tuple [.Name a pa, .Name b pb, .Name c pc, .Name x px, .Name y py] k p] (.ListComp elt gs sc pe) q) ρ σ = some (.next ρ₁, σ₁) := bto h (bto rfl (bto hb rfl))
theorem x_if_t {t : Expr} {a b : List Stmt} {p : Pos} {r : Option (Fl × Nat)} (h : tst T glob n nm t ρ σ = some (true, σ₁)) (h1 : exs T glob n nm a ρ σ₁ = r) : ex T glob (n + 1) nm (.If t a b p) ρ σ = r := bto h h1
theorem x_if_f {t : Expr} {a b : List Stmt} {p : Pos} {r : Option (Fl × Nat)} (h : tst T glob n nm t ρ σ = some (false, σ₁)) (h1 : exs T glob n nm b ρ σ₁ = r) : ex T glob (n + 1) nm (.If t a b p) ρ σ = r := bto h h1
theorem x_ret {e : Expr} {p : Pos} {v : V} (h : ev T glob n nm e ρ σ = some (v, σ₁)) : ex T glob (n + 1) nm (.Return (some e) p) ρ σ = some (.ret v, σ₁) := bto h rfl
noncomputable def bodyF (T : Tab) (n : Nat) (nm : Names) (t : Expr) (body : List Stmt) (d : D) (ρ : Rho) (s : Nat) : Option (Fl × Nat) := (bindT nm t d ρ).bind fun ρ₁ => exs T glob n nm body ρ₁ s
theorem x_for {t it : Expr} {body : List Stmt} {p : Pos} {items : List D} {r : Option (Fl × Nat)} (h : evI T glob n nm t it ρ σ = some (items, σ₁)) (h1 : overF (bodyF T n nm t body) items ρ σ₁ = r) : ex T glob (n + 1) nm (.For t it body [] p) ρ σ = r := bto h h1
theorem s_nil : exs T glob (n + 1) nm [] ρ σ = some (.next ρ, σ) := rfl
theorem s_next {st : Stmt} {rest : List Stmt} {r : Option (Fl × Nat)} (h : ex T glob n nm st ρ σ = some (.next ρ₁, σ₁)) (h1 : exs T glob n nm rest ρ₁ σ₁ = r) : exs T glob (n + 1) nm (st :: rest) ρ σ = r := bto h h1
theorem s_ret {st : Stmt} {rest : List Stmt} {v : V} (h : ex T glob n nm st ρ σ = some (.ret v, σ₁)) : exs T glob (n + 1) nm (st :: rest) ρ σ = some (.ret v, σ₁) := bto h rfl
theorem s_assign {x : Str} {p q : Pos} {e : Expr} {v : V} {rest : List Stmt} {r : Option (Fl × Nat)} (hs : stor nm x = true) (h : ev T glob n nm e ρ σ = some (v, σ₁)) (h1 : exs T glob (n + 1) nm rest (setName ρ x v) σ₁ = r) :
    exs T glob (n + 2) nm (.Assign [.Name x p] e q :: rest) ρ σ = r := s_next (x_assign h hs) h1
theorem s_assign2 {x y : Str} {p p' q q' q'' : Pos} {k k' : Nat} {e₁ e₂ : Expr} {v w : V} {rest : List Stmt} {r : Option (Fl × Nat)} (hs : (stor nm x && stor nm y && x != y && !([e₁, e₂].all (constantsAlone 8))) = true) (h : ev T glob n nm e₁ ρ σ = some (v, σ₁)) (h2 : ev T glob n nm e₂ ρ σ₁ = some (w, σ₂))
    (h1 : exs T glob (n + 1) nm rest (setName (setName ρ x v) y w) σ₂ = r) : exs T glob (n + 2) nm (.Assign [.Tuple [.Name x p, .Name y p'] k q] (.Tuple [e₁, e₂] k' q') q'' :: rest) ρ σ = r := s_next (x_assign2 h h2 hs) h1
theorem s_if_t {t : Expr} {a b rest : List Stmt} {p : Pos} {v : V} (h : tst T glob n nm t ρ σ = some (true, σ₁)) (h1 : exs T glob n nm a ρ σ₁ = some (.ret v, σ₂)) : exs T glob (n + 2) nm (.If t a b p :: rest) ρ σ = some (.ret v, σ₂) := s_ret (x_if_t h h1)
theorem s_if_t' {t : Expr} {a b rest : List Stmt} {p : Pos} {r : Option (Fl × Nat)} (h : tst T glob n nm t ρ σ = some (true, σ₁)) (h1 : exs T glob n nm a ρ σ₁ = some (.next ρ₁, σ₂)) (h2 : exs T glob (n + 1) nm rest ρ₁ σ₂ = r) : exs T glob (n + 2) nm (.If t a b p :: rest) ρ σ = r := s_next (x_if_t h h1) h2
theorem s_if_f {t : Expr} {a rest : List Stmt} {p : Pos} {r : Option (Fl × Nat)} (h : tst T glob (n + 1) nm t ρ σ = some (false, σ₁)) (h1 : exs T glob (n + 2) nm rest ρ σ₁ = r) : exs T glob (n + 3) nm (.If t a [] p :: rest) ρ σ = r := s_next (x_if_f h s_nil) h1
theorem s_return {e : Expr} {p : Pos} {v : V} {rest : List Stmt} (h : ev T glob n nm e ρ σ = some (v, σ₁)) : exs T glob (n + 2) nm (.Return (some e) p :: rest) ρ σ = some (.ret v, σ₁) := s_ret (x_ret h)
theorem f_body {t : Expr} {body : List Stmt} {d : D} {r : Option (Fl × Nat)} (hb : bindT nm t d ρ = some ρ₁) (h : exs T glob n nm body ρ₁ σ = r) : bodyF T n nm t body d ρ σ = r := bto hb h
end

section
variable {σ σ₁ σ₂ : Nat}
theorem c_nil {f : D → Nat → Option (List D × Nat)} : overC f [] σ = some ([], σ) := rfl
theorem c_cons {f : D → Nat → Option (List D × Nat)} {d : D} {ds xs ys : List D} (h : f d σ = some (xs, σ₁)) (h2 : overC f ds σ₁ = some (ys, σ₂)) : overC f (d :: ds) σ = some (xs ++ ys, σ₂) := bto h (bto h2 rfl)
theorem c_map {α : Type} {f : D → Nat → Option (List D × Nat)} {emb : α → D} {g : α → List D} : ∀ {l : List α}, (∀ x ∈ l, f (emb x) σ = some (g x, σ)) → overC f (l.map emb) σ = some (l.flatMap g, σ)
  | [], _ => rfl
  | x :: l, h => by
    rw [List.map_cons, List.flatMap_cons]
    exact c_cons (h x List.mem_cons_self) (c_map fun y hy => h y (List.mem_cons_of_mem _ hy))
theorem o_nil {f : D → Rho → Nat → Option (Fl × Nat)} {ρ : Rho} : overF f [] ρ σ = some (.next ρ, σ) := rfl
theorem o_next {f : D → Rho → Nat → Option (Fl × Nat)} {ρ ρ' : Rho} {d : D} {ds : List D} {r : Option (Fl × Nat)} (h : f d ρ σ = some (.next ρ', σ₁)) (h2 : overF f ds ρ' σ₁ = r) : overF f (d :: ds) ρ σ = r := bto h h2
end

/-! ## the table -/
theorem tab_basic {f : Str} {vs : List V} {σ : Nat} {r : V × Nat} (h : basic f vs σ = some r) : ∀ k, tab DEFS k f vs σ = some r
  | 0 => h
  | _ + 1 => oc_s h rfl
theorem tab_up {f : Str} {vs : List V} {df : Def} {σ k : Nat} {r : Option (V × Nat)} (hb : basic f vs σ = none) (hn : NEED.contains f = true) (hd : DEFS.lookup (defName f) = some df) (h : tabV (tab DEFS k) f vs σ df = r) : tab DEFS (k + 1) f vs σ = r := oc_n hb (ct hn (bto hd h))
theorem tab_def {f : Str} {vs : List V} {df : Def} {σ σ' : Nat} {v : D} {k : Nat} (hb : basic f vs σ = none) (hn : NEED.contains f = true) (hj : (f == ("join" : Str)) = false) (hw : (f == ("_law_draw" : Str)) = false) (hd : DEFS.lookup (defName f) = some df)
    (hl : df.params.length = vs.length) (he : exs (tab DEFS k) glob FUEL df.names df.body (df.params.zip vs) σ = some (.ret (.d v), σ')) : tab DEFS (k + 1) f vs σ = some (.d v, σ') :=
  tab_up hb hn hd (cf hj (cf hw (ifp hl (bto he rfl))))
theorem tab_def' {f : Str} {vs : List V} {ps : List Str} {b : List Stmt} {nm : Names} {σ σ' : Nat} {v v' : D} {k : Nat} (hb : basic f vs σ = none) (hn : NEED.contains f = true) (hj : (f == ("join" : Str)) = false) (hw : (f == ("_law_draw" : Str)) = false) (hd : DEFS.lookup (defName f) = some ⟨ps, b, nm⟩)
    (hl : ps.length = vs.length) (he : exs (tab DEFS k) glob 150 nm b (ps.zip vs) σ = some (.ret (.d v), σ')) (hv : v = v') : tab DEFS (k + 1) f vs σ = some (.d v', σ') := by
  rw [← hv]
  exact tab_def hb hn hj hw hd hl he
theorem tab_join {s t : List D} {df : Def} {σ σ' : Nat} {v : D} {k : Nat} {g : List (Int × List D)} (hd : DEFS.lookup ("join" : Str) = some df) (hg : groupFrom t [] = some g)
    (he : exs (tab DEFS k) glob FUEL df.names (df.body.drop 2) ((("begun" : Str), V.grp g) :: df.params.zip [.d (.tup s), .d (.tup t)]) σ = some (.ret (.d v), σ')) : tab DEFS (k + 1) "join" [.d (.tup s), .d (.tup t)] σ = some (.d v, σ') :=
  tab_up (f := ("join" : Str)) rfl (by decide) hd (ct rfl (bto rfl (bto rfl (bto rfl (bto rfl (bto rfl (bto hg (bto he rfl))))))))
theorem tab_draw {cs : List Int} {wide : Int} {df : Def} {σ σ' : Nat} {v : D} {k : Nat} (hd : DEFS.lookup ("_law_draw" : Str) = some df) (hw : 0 < wide)
    (he : exs (tab DEFS k) glob FUEL df.names (df.body.drop 1) (df.params.zip [.feed cs, .d (.int wide)]) (σ + 1) = some (.ret (.d v), σ')) : tab DEFS (k + 1) "_law_draw" [.feed cs, .d (.int wide)] σ = some (.d v, σ') :=
  tab_up (f := ("_law_draw" : Str)) rfl (by decide) hd (cf rfl (ct rfl (bto rfl (bto rfl (bto rfl (bto rfl (ifp hw (bto he rfl))))))))

theorem tab_len_t {ds : List D} {σ k : Nat} : tab DEFS k "len" [.d (.tup ds)] σ = some (.d (.int ds.length), σ) := tab_basic rfl k
theorem tab_len_l {ds : List D} {σ k : Nat} : tab DEFS k "len" [.d (.list ds)] σ = some (.d (.int ds.length), σ) := tab_basic rfl k
theorem tab_tuple {ds : List D} {σ k : Nat} : tab DEFS k "tuple" [.d (.list ds)] σ = some (.d (.tup ds), σ) := tab_basic rfl k
end Mine

end

section
open PySem
namespace Mine

/-! ## the sets that the law draws, by evaluation -/
noncomputable def ledAs (b : Bool) (t : SetTable) : SetTable := { t with led := b }
theorem probe_led (b : Bool) (t : SetTable) (f : Nat → Int) (h : Int) : ∀ (n : Nat) (p : SetTable.Probe), SetTable.probe.go (ledAs b t) f h n p = SetTable.probe.go t f h n p
  | 0, _ => rfl
  | n + 1, p => by
    unfold SetTable.probe.go
    have e : (ledAs b t).slot p.j = t.slot p.j := rfl
    rw [e]
    cases t.slot p.j with
    | empty => rfl
    | dummy => exact probe_led b t f h n _
    | live i =>
      simp only
      split
      · rfl
      · exact probe_led b t f h n _
theorem search_led (b : Bool) (t : SetTable) (es : Array (Int × List Int)) (h : Int) (row : List Int) : ∀ (n : Nat) (p : Option SetTable.Probe), searchP (ledAs b t) es h row n p = searchP t es h row n p
  | 0, _ => rfl
  | n + 1, p => by
    unfold searchP
    have e : (ledAs b t).probe (fun i => (es[i]?.map (·.1)).getD 0) h (p.getD ((ledAs b t).probeStart h)) = t.probe (fun i => (es[i]?.map (·.1)).getD 0) h (p.getD (t.probeStart h)) := probe_led b t _ h _ _
    rw [e]
    split
    · rfl
    · split
      · split
        · rfl
        · have e2 : ∀ j, (ledAs b t).slot j = t.slot j := fun _ => rfl
          rw [e2]
          split
          · exact search_led b t es h row n _
          · rfl
      · rfl
    · rfl
theorem relaid_led (b : Bool) (t : SetTable) (hs : Array Int) (n : Nat) : (ledAs b t).relaid hs n = (t.relaid hs n).map fun q => (ledAs b q.1, q.2) := by
  unfold SetTable.relaid SetTable.laid
  simp only [Option.bind_eq_bind]
  have e : (ledAs b t).movedTo = t.movedTo := rfl
  rw [e]
  cases SetTable.layClean (SetTable.sizeAbove n - 1) hs <;> rfl
theorem add_led (b : Bool) (es : Array (Int × List Int)) (t : SetTable) (row : List Int) : addP (es, ledAs b t) row = (addP (es, t) row).map fun q => (q.1, ledAs b q.2) := by
  unfold addP
  simp only
  have e1 : (ledAs b t).gaveWay = t.gaveWay := rfl
  rw [e1, search_led]
  split
  · rfl
  · split
    · rfl
    · rfl
    · rename_i slot _
      have e2 : (ledAs b t).put slot = (ledAs b (t.put slot).1, (t.put slot).2) := rfl
      rw [e2]
      simp only
      have e3 : ∀ n, (ledAs b (t.put slot).1).fits n = (t.put slot).1.fits n := fun _ => rfl
      have e4 : (ledAs b (t.put slot).1).tooFull = (t.put slot).1.tooFull := rfl
      rw [e3, e4]
      split
      · rfl
      · split
        · split
          · rfl
          · rw [relaid_led]
            cases (t.put slot).1.relaid _ _ with
            | none => rfl
            | some q =>
              obtain ⟨t', order⟩ := q
              simp only [Option.map_some]
              have e5 : ∀ n, (ledAs b t').fits n = t'.fits n := fun _ => rfl
              rw [e5]
              split <;> rfl
        · rfl
theorem adds_led (b : Bool) : ∀ (rs : List (List Int)) (es : Array (Int × List Int)) (t : SetTable), addsP rs (es, ledAs b t) = (addsP rs (es, t)).map fun q => (q.1, ledAs b q.2)
  | [], _, _ => rfl
  | r :: rs, es, t => by
    unfold addsP
    rw [add_led]
    cases addP (es, t) r with
    | none => rfl
    | some q => exact adds_led b rs q.1 q.2
theorem run_led {rs : List (List Int)} {a : List (List Int)} (h : setRun true rs = some a) : setRun false rs = some a := by
  unfold setRun at h ⊢
  have e : addsP rs (#[], SetTable.fresh 0 0 false) = (addsP rs (#[], SetTable.fresh 0 0 true)).map fun q => (q.1, ledAs false q.2) := adds_led false rs #[] (SetTable.fresh 0 0 true)
  rw [e]
  cases hq : addsP rs (#[], SetTable.fresh 0 0 true) with
  | none => rw [hq] at h; cases h
  | some st =>
    rw [hq] at h
    simp only [Option.bind_some, Option.map_some] at h ⊢
    split at h
    · rename_i hc
      cases h
      rw [if_pos]
      simp only [Bool.and_eq_true] at hc ⊢
      exact ⟨⟨⟨⟨hc.1.1.1.1, hc.1.1.1.2⟩, rfl⟩, hc.1.2⟩, hc.2⟩
    · cases h
theorem rows_of_run {rs : List (List Int)} {a : List (List Int)} (h : setRun true rs = some a) : setRows rs = some a := by
  unfold setRows
  rw [h]
  simp only [Option.bind_some]
  rw [if_pos (run_led h)]

noncomputable def endB (L : List (List Int)) (st : PSet) : Bool := walkOK st.2 st.1.size && st.2.plain && st.2.led == true && decide (st.1.size < 64) && decide (st.1.toList.map (·.2)).Nodup && (st.1.toList.map (·.2)).all (fun r => L.contains r)
noncomputable def stages (L : List (List Int)) : List (List Int) → PSet → Bool
  | [], st => endB L st
  | r :: rs, st => endB L st && (match addP st r with
    | some st' => stages L rs st'
    | none => false)
theorem stages_take {L : List (List Int)} : ∀ (rs : List (List Int)) (st : PSet) (n : Nat), stages L rs st = true → ∃ st', addsP (rs.take n) st = some st' ∧ endB L st' = true
  | [], st, n, h => ⟨st, by simp [addsP], h⟩
  | r :: rs, st, 0, h => by
    unfold stages at h
    rw [Bool.and_eq_true] at h
    exact ⟨st, rfl, h.1⟩
  | r :: rs, st, n + 1, h => by
    unfold stages at h
    rw [Bool.and_eq_true] at h
    rw [List.take_succ_cons]
    unfold addsP
    cases hq : addP st r with
    | none => rw [hq] at h; simp at h
    | some q =>
      rw [hq] at h
      exact stages_take rs q n h.2
theorem stages_rows {L rs : List (List Int)} (n : Nat) (h : stages L rs (#[], .fresh 0 0 true) = true) : ∃ ks, setRows (rs.take n) = some ks ∧ ks.Nodup ∧ ∀ r ∈ ks, r ∈ L := by
  obtain ⟨st, h1, h2⟩ := stages_take rs _ n h
  refine ⟨st.1.toList.map (·.2), rows_of_run ?_, ?_, ?_⟩
  · unfold setRun
    rw [h1]
    simp only [Option.bind_some]
    unfold endB at h2
    rw [if_pos]
    simp only [Bool.and_eq_true] at h2 ⊢
    exact h2.1
  · unfold endB at h2
    simp only [Bool.and_eq_true, decide_eq_true_eq] at h2
    exact h2.1.2
  · unfold endB at h2
    simp only [Bool.and_eq_true, List.all_eq_true] at h2
    intro r hr
    have := h2.2 r hr
    simpa using this

noncomputable def pickR (L : List (List Int)) (first step cnt : Nat) : List (List Int) := (List.range cnt).map fun k => L.getD ((first + step * k) % L.length) []
noncomputable def stepB (L : List (List Int)) (step : Nat) : Bool := (List.range L.length).all fun first => stages (pickR L first step 5) (pickR L first step 5) (#[], .fresh 0 0 true)
theorem pick_take (L : List (List Int)) (first step : Nat) {cnt : Nat} (h : cnt ≤ 5) : (pickR L first step 5).take cnt = pickR L first step cnt := by
  unfold pickR
  rw [← List.map_take, List.take_range, Nat.min_eq_left h]
theorem pick_rows {L : List (List Int)} (hL : ∀ step, 0 < step → step ≤ 5 → stepB L step = true) {first step cnt : Nat} (h1 : first < L.length) (h2 : 0 < step) (h3 : step ≤ 5) (h4 : cnt ≤ 5) : ∃ ks, setRows (pickR L first step cnt) = some ks ∧ ks.Nodup ∧ ∀ r ∈ ks, r ∈ L := by
  have hL := hL step h2 h3
  unfold stepB at hL
  rw [List.all_eq_true] at hL
  have := hL first (List.mem_range.mpr h1)
  rw [← pick_take L first step h4]
  obtain ⟨ks, e1, e2, e3⟩ := stages_rows cnt this
  refine ⟨ks, e1, e2, fun r hr => ?_⟩
  obtain ⟨i, _, rfl⟩ := List.mem_map.mp (e3 r hr)
  have hlt : (first + step * i) % L.length < L.length := Nat.mod_lt _ (by omega)
  rw [List.getD_eq_getElem?_getD, List.getElem?_eq_getElem hlt]
  exact List.getElem_mem hlt
end Mine

end

section
open PySem PySem.W PySem.Calls PyProof.Rows PySem.Spec
namespace Mine

/-! ## how a heap bears data; X: the addresses that no datum stands at -/
mutual
inductive Rep (X : Addr → Prop) (h : Heap) : Value → D → Prop
  | none : Rep X h .none .none
  | bool (b : Bool) : Rep X h (.bool b) (.bool b)
  | int (i : Int) (t : Tok) : Rep X h (.int i t) (.int i)
  | str (x : Str) (t : Tok) : Rep X h (.str x t) (.str x)
  | tup {a : Addr} {o : Obj} {vs : Array Value} {n : Nat} {ds : List D} : ¬ X a → h.get? a = some o → o.cls = .type "tuple" → o.data = .seq vs n → Reps X h vs.toList ds → ds.length < LIM → Rep X h (.ref a) (.tup ds)
  | list {a : Addr} {o : Obj} {vs : Array Value} {n : Nat} {ds : List D} : ¬ X a → h.get? a = some o → o.cls = .type "list" → o.data = .seq vs n → o.dict = none → Reps X h vs.toList ds → ds.length < LIM → Rep X h (.ref a) (.list ds)
inductive Reps (X : Addr → Prop) (h : Heap) : List Value → List D → Prop
  | nil : Reps X h [] []
  | cons {v : Value} {vs : List Value} {d : D} {ds : List D} : Rep X h v d → Reps X h vs ds → Reps X h (v :: vs) (d :: ds)
end

theorem Rep.map {X X' : Addr → Prop} {h h' : Heap} (hk : ∀ b o, ¬ X b → h.get? b = some o → ¬ X' b ∧ h'.get? b = some o) {v : Value} {d : D} (r : Rep X h v d) : Rep X' h' v d :=
  Rep.rec (motive_1 := fun v d _ => Rep X' h' v d) (motive_2 := fun vs ds _ => Reps X' h' vs ds) .none .bool .int .str (fun hx ho hc hd _ hl q => .tup (hk _ _ hx ho).1 (hk _ _ hx ho).2 hc hd q hl) (fun hx ho hc hd hn _ hl q => .list (hk _ _ hx ho).1 (hk _ _ hx ho).2 hc hd hn q hl) .nil (fun _ _ a b => .cons a b) r
theorem Reps.map {X X' : Addr → Prop} {h h' : Heap} (hk : ∀ b o, ¬ X b → h.get? b = some o → ¬ X' b ∧ h'.get? b = some o) {vs : List Value} {ds : List D} (r : Reps X h vs ds) : Reps X' h' vs ds :=
  Reps.rec (motive_1 := fun v d _ => Rep X' h' v d) (motive_2 := fun vs ds _ => Reps X' h' vs ds) .none .bool .int .str (fun hx ho hc hd _ hl q => .tup (hk _ _ hx ho).1 (hk _ _ hx ho).2 hc hd q hl) (fun hx ho hc hd hn _ hl q => .list (hk _ _ hx ho).1 (hk _ _ hx ho).2 hc hd hn q hl) .nil (fun _ _ a b => .cons a b) r

section
variable {X : Addr → Prop} {h : Heap}
theorem Reps.length {vs : List Value} : ∀ {ds : List D}, Reps X h vs ds → vs.length = ds.length := by
  induction vs with
  | nil => intro ds r; cases r; rfl
  | cons v vs ih => intro ds r; cases r with | cons _ r => simp [ih r]
theorem Reps.append {vs ws : List Value} {es : List D} (k : Reps X h ws es) : ∀ {ds : List D}, Reps X h vs ds → Reps X h (vs ++ ws) (ds ++ es) := by
  induction vs with
  | nil => intro ds r; cases r; exact k
  | cons v vs ih => intro ds r; cases r with | cons hd r => exact .cons hd (ih r)
theorem Reps.get {vs : List Value} : ∀ {ds : List D}, Reps X h vs ds → ∀ {i : Nat} {d : D}, ds[i]? = some d → ∃ v, vs[i]? = some v ∧ Rep X h v d := by
  induction vs with
  | nil => intro ds r i d hd; cases r; simp at hd
  | cons v vs ih =>
    intro ds r i d hd
    cases r with
    | cons h1 r =>
      cases i with
      | zero => simp at hd; subst hd; exact ⟨v, rfl, h1⟩
      | succ i => exact ih r (by simpa using hd)
theorem Reps.get' {vs : List Value} {ds : List D} (r : Reps X h vs ds) {i : Nat} {v : Value} (hv : vs[i]? = some v) : ∃ d, ds[i]? = some d ∧ Rep X h v d := by
  have hi : i < ds.length := by rw [← r.length]; exact (List.getElem?_eq_some_iff.mp hv).1
  obtain ⟨u, hu, hr⟩ := r.get (List.getElem?_eq_getElem hi)
  rw [hv] at hu; cases hu
  exact ⟨_, List.getElem?_eq_getElem hi, hr⟩
theorem Reps.take {vs : List Value} (n : Nat) : ∀ {ds : List D}, Reps X h vs ds → Reps X h (vs.take n) (ds.take n) := by
  induction vs generalizing n with
  | nil => intro ds r; cases r; simpa using Reps.nil
  | cons v vs ih =>
    intro ds r; cases r with
    | cons h1 r => cases n with
      | zero => simpa using Reps.nil
      | succ n => simpa using Reps.cons h1 (ih n r)
theorem Reps.drop {vs : List Value} (n : Nat) : ∀ {ds : List D}, Reps X h vs ds → Reps X h (vs.drop n) (ds.drop n) := by
  induction vs generalizing n with
  | nil => intro ds r; cases r; simpa using Reps.nil
  | cons v vs ih =>
    intro ds r; cases r with
    | cons h1 r => cases n with
      | zero => simpa using Reps.cons h1 r
      | succ n => simpa using ih n r
theorem Reps.snoc {vs : List Value} {v : Value} {ds : List D} {d : D} (r : Reps X h vs ds) (k : Rep X h v d) : Reps X h (vs ++ [v]) (ds ++ [d]) := Reps.append (.cons k .nil) r
end

/-! as the kit reads data -/
mutual
noncomputable def D.py : D → PyData
  | .none => .none
  | .bool b => .bool b
  | .int i => .int i
  | .str x => .str x
  | .tup ds => .tuple (D.pys ds)
  | .list ds => .list (D.pys ds)
noncomputable def D.pys : List D → List PyData
  | [] => []
  | d :: ds => D.py d :: D.pys ds
end
theorem Rep.reads {X : Addr → Prop} {h : Heap} {v : Value} {d : D} (r : Rep X h v d) : ∃ as, Reads h v d.py as :=
  Rep.rec (motive_1 := fun v d _ => ∃ as, Reads h v d.py as) (motive_2 := fun vs ds _ => ∃ as, ReadsAll h vs (D.pys ds) as) ⟨_, .none⟩ (fun b => ⟨_, .bool b⟩) (fun i t => ⟨_, .int i t⟩) (fun x t => ⟨_, .str x t⟩) (fun _ ho hc hd _ _ q => q.elim fun as q => ⟨as, .tuple ho hc hd q⟩) (fun _ ho hc hd _ _ _ q => q.elim fun _ q => ⟨_, .list ho hc hd q⟩) ⟨_, .nil⟩ (fun _ _ p q => p.elim fun _ p => q.elim fun _ q => ⟨_, .cons p q⟩) r

theorem simple_lay : ∀ (n : Nat) (d : D), d.simple n = true → d.py.canLay0 = true ∧ d.py.depth ≤ n := by
  have all : ∀ (n : Nat), (∀ d : D, d.simple n = true → d.py.canLay0 = true ∧ d.py.depth ≤ n) → ∀ ds : List D, D.simples n ds = true → PyData.canLayAll0 (D.pys ds) = true ∧ PyData.depthAll (D.pys ds) ≤ n := by
    intro n ih ds
    induction ds with
    | nil => intro _; simp [D.pys, PyData.canLayAll0, PyData.depthAll]
    | cons d ds hi =>
      intro h
      simp only [simples_c, Bool.and_eq_true] at h
      have h1 := ih d h.1
      have h2 := hi h.2
      simp only [D.pys, PyData.canLayAll0, PyData.depthAll, h1.1, h2.1, Bool.and_self, true_and]
      have a1 := h1.2
      have a2 := h2.2
      omega
  intro n
  induction n with
  | zero => intro d h; cases d <;> first | exact absurd h Bool.false_ne_true | (have h : PyData.strOk _ = true := h; simp_all [D.py, PyData.canLay0, PyData.depth]) | simp_all [D.py, PyData.canLay0, PyData.depth]
  | succ n ih =>
    intro d h
    cases d with
    | none => exact absurd h Bool.false_ne_true
    | bool b => exact absurd h Bool.false_ne_true
    | int i => simp [D.py, PyData.canLay0, PyData.depth]
    | str x => have h : PyData.strOk x = true := h; simp [D.py, PyData.canLay0, PyData.depth, h]
    | tup ds =>
      have q := all n ih ds h
      simp only [D.py, PyData.canLay0, PyData.depth, q.1, true_and]
      have := q.2
      omega
    | list ds =>
      have q := all n ih ds h
      simp only [D.py, PyData.canLay0, PyData.depth, q.1, true_and]
      have := q.2
      omega

theorem eqv_py : ∀ (n : Nat) (d e : D) (k : Nat), d.simple n = true → e.simple k = true → PyData.eqv d.py e.py = d.eqv e := by
  have all : ∀ (n : Nat), (∀ (d e : D) k, d.simple n = true → e.simple k = true → PyData.eqv d.py e.py = d.eqv e) → ∀ (k : Nat) (ds es : List D), D.simples n ds = true → D.simples k es = true →
      PyData.eqvAll (D.pys ds) (D.pys es) = D.eqvs ds es := by
    intro n ih k ds
    induction ds with
    | nil => intro es _ _; cases es <;> rfl
    | cons d ds hi =>
      intro es h1 h2
      cases es with
      | nil => rfl
      | cons e es =>
        simp only [simples_c, Bool.and_eq_true] at h1 h2
        simp only [D.pys, PyData.eqvAll, eqvs_cc, ih d e k h1.1 h2.1, hi es h1.2 h2.2]
  intro n
  induction n with
  | zero =>
    intro d e k h1 h2
    cases d <;> cases e <;> cases k <;> first | exact fls h1 | exact fls h2 | rfl | simp_all [D.py, PyData.eqv]
  | succ n ih =>
    intro d e k h1 h2
    cases d with
    | tup ds =>
      cases e with
      | tup es =>
        cases k with
        | zero => exact absurd h2 Bool.false_ne_true
        | succ k =>
          exact all n ih k ds es h1 h2
      | _ => cases k <;> first | exact fls h1 | exact fls h2 | rfl | simp_all [D.py, PyData.eqv]
    | list ds =>
      cases e with
      | list es =>
        cases k with
        | zero => exact absurd h2 Bool.false_ne_true
        | succ k =>
          exact all n ih k ds es h1 h2
      | _ => cases k <;> first | exact fls h1 | exact fls h2 | rfl | simp_all [D.py, PyData.eqv]
    | _ => cases e <;> cases k <;> first | exact fls h1 | exact fls h2 | rfl | simp_all [D.py, PyData.eqv]
end Mine

end

section
open PySem PySem.W PySem.Calls PyProof.Rows PySem.Spec
namespace Mine

theorem Heap.DictOf.at' {prog : Program} {w : World} {K : Type} [DecidableEq K] {knd : PySem.KeyKind prog w K} {h h' : Heap} {a : Addr} {kvs : List (K × Value)} (x : h.DictOf knd a kvs) (hk : ∀ o, h.get? a = some o → h'.get? a = some o) : h'.DictOf knd a kvs := by
  obtain ⟨o, es, ep, ho, r⟩ := x
  exact ⟨o, es, ep, hk _ ho, r⟩

/-- the world in which the law is called -/
structure Wd where
  prog : Program
  w : World
  h₀ : Heap
  K : Frag
  mg : Str → Option Value
  mb : Str → Option Value
  fd : Addr
  cl : Addr
  cs : List Int
  fv : Str → Value
  ec : Addr
  G : Str → Option V

noncomputable def Wd.M (W : Wd) : Model := model W.prog W.w
/-- the feed's dict and its list of cells -/
noncomputable def Wd.F (W : Wd) (h : Heap) (σ : Nat) : Prop :=
  (∃ t, h.DictOf (PySem.strKind W.prog W.w) W.fd [(("cells" : Str), Value.ref W.cl), (("spot" : Str), Value.int σ t)]) ∧
  ∃ o vs n, h.get? W.cl = some o ∧ o.cls = .type "list" ∧ o.data = .seq vs n ∧ o.dict = none ∧ Reps (fun _ => False) h vs.toList (W.cs.map .int)
abbrev intKey (W : Wd) : PySem.KeyKind W.prog W.w Int := PySem.intKind W.prog W.w
abbrev rowKey (W : Wd) : HeapKind W.prog W.w (List Int) := tupleKind (intKey W)


/-- a dict whose values are all True -/
noncomputable def KeysAt (W : Wd) (X : Addr → Prop) (h : Heap) (a : Addr) (ks : List D) : Prop :=
  (∃ xs : List (List Int × Addr × Value), h.DictOfH (rowKey W) a xs ∧ ks = xs.map (fun x => rowD x.1) ∧ ∀ x ∈ xs, Rep X h (.ref x.2.1) (rowD x.1)) ∨
  (∃ kvs : List (Int × Value), h.DictOf (intKey W) a kvs ∧ ks = kvs.map fun x => D.int x.1)

/-- a set of rows: its elements in some sequence -/
noncomputable def SetAt (W : Wd) (X : Addr → Prop) (h : Heap) (a : Addr) (ks : List D) : Prop :=
  ∃ o es ep t vs, h.get? a = some o ∧ o.cls = .type "set" ∧ o.data = .set es ep t ∧ t.fits es.size = true ∧ walkOK t es.size = true ∧ (t.led = true ∨ W.w.params.followText "set-order" = true) ∧ t.plain = true ∧
    (es.toList.map (·.2)).Perm vs ∧ Reps X h vs ks

noncomputable def EvAt (W : Wd) (X : Addr → Prop) (h : Heap) (a : Addr) (n : Int) (rels : List D) : Prop :=
  ¬ X a ∧ ∃ dx es ep lv t, ¬ X dx ∧ h.get? a = some (instObj W.ec dx) ∧ h.get? dx = some (dictOf es ep) ∧ getL "many" es = some (some (.int n t)) ∧ getL "instance" es = some (some lv) ∧
    (∀ m ∈ (["of_two", "has_many", "truth", "set_of"] : List Str), getL m es = some none) ∧ Rep X h lv (.list rels)

/-- lists beneath ints -/
inductive GrpAt (X : Addr → Prop) (h : Heap) : List (Int × Value) → List (Int × List D) → Prop
  | nil : GrpAt X h [] []
  | cons {i : Int} {v : Value} {ds : List D} {kvs : List (Int × Value)} {g : List (Int × List D)} : Rep X h v (.list ds) → GrpAt X h kvs g → GrpAt X h ((i, v) :: kvs) ((i, ds) :: g)

theorem GrpAt.map {X X' : Addr → Prop} {h h' : Heap} (hk : ∀ b o, ¬ X b → h.get? b = some o → ¬ X' b ∧ h'.get? b = some o) {kvs : List (Int × Value)} {g : List (Int × List D)} (r : GrpAt X h kvs g) : GrpAt X' h' kvs g := by
  induction r with
  | nil => exact .nil
  | cons h1 _ ih => exact .cons (h1.map hk) ih

noncomputable def RepV (W : Wd) (X : Addr → Prop) (h : Heap) : Value → V → Prop
  | u, .d x => Rep X h u x
  | u, .keys ks => ∃ a, u = .ref a ∧ ¬ X a ∧ (a == sysModules) = false ∧ KeysAt W X h a ks
  | u, .setk ks => ∃ a, u = .ref a ∧ ¬ X a ∧ SetAt W X h a ks
  | u, .fn x => u = W.fv x
  | u, .ev n rels => ∃ a, u = .ref a ∧ EvAt W X h a n rels
  | u, .meth n rels m => ∃ q a, u = .ref q ∧ ¬ X q ∧ h.get? q = some (methodObj (W.fv (("Evaluator." : Str) ++ m)) (.ref a)) ∧ EvAt W X h a n rels
  | u, .feed cs => u = .ref W.fd ∧ cs = W.cs
  | u, .at a => u = .ref a
  | u, .grp g => ∃ a kvs, u = .ref a ∧ ¬ X a ∧ (a == sysModules) = false ∧ h.DictOf (intKey W) a kvs ∧ GrpAt X h kvs g

inductive RepVs (W : Wd) (X : Addr → Prop) (h : Heap) : List Value → List V → Prop
  | nil : RepVs W X h [] []
  | cons {u : Value} {us : List Value} {v : V} {vs : List V} : RepV W X h u v → RepVs W X h us vs → RepVs W X h (u :: us) (v :: vs)

theorem RepV.map {W : Wd} {X X' : Addr → Prop} {h h' : Heap} (hk : ∀ b o, ¬ X b → h.get? b = some o → ¬ X' b ∧ h'.get? b = some o) {u : Value} {v : V} (r : RepV W X h u v) : RepV W X' h' u v := by
  induction v using V.casesOn
  case d => exact Rep.map hk r
  case grp g =>
    obtain ⟨a, kvs, e, hx, hs, hd, hg⟩ := r
    exact ⟨a, kvs, e, by obtain ⟨o, _, _, ho, _⟩ := hd; exact (hk a o hx ho).1, hs, Heap.DictOf.at' hd fun o ho => (hk a o hx ho).2, hg.map hk⟩
  case keys ks =>
    obtain ⟨a, e, hx, hsys, r⟩ := r
    rcases r with ⟨xs, ⟨o, es, ep, ho, hc, hd, he, hi, hn⟩, hks, hr⟩ | ⟨kvs, ⟨o, es, ep, ho, r⟩, hks⟩
    · refine ⟨a, e, (hk _ _ hx ho).1, hsys, .inl ⟨xs, ⟨o, es, ep, (hk _ _ hx ho).2, hc, hd, he, fun x hm => ?_, hn⟩, hks, fun x hm => Rep.map hk (hr x hm)⟩⟩
      obtain ⟨o', items, n, ho', hc', hd', hi'⟩ := hi x hm
      have hr' := hr x hm
      cases hr' with
      | tup hx' ho2 _ _ _ _ =>
        rw [ho'] at ho2
        exact ⟨o', items, n, (hk _ _ hx' ho').2, hc', hd', hi'⟩
    · exact ⟨a, e, (hk _ _ hx ho).1, hsys, .inr ⟨kvs, ⟨o, es, ep, (hk _ _ hx ho).2, r⟩, hks⟩⟩
  case setk ks =>
    obtain ⟨a, e, hx, o, es, ep, t, vs, ho, r⟩ := r
    obtain ⟨hc, hd, hf, hw, hl, hp, hperm, hr⟩ := r
    exact ⟨a, e, (hk _ _ hx ho).1, o, es, ep, t, vs, (hk _ _ hx ho).2, hc, hd, hf, hw, hl, hp, hperm, Reps.map hk hr⟩
  case ev n rels =>
    obtain ⟨a, e, hx, dx, es, ep, lv, t, hxd, ho, hd, h1, h2, h3, hr⟩ := r
    exact ⟨a, e, (hk _ _ hx ho).1, dx, es, ep, lv, t, (hk _ _ hxd hd).1, (hk _ _ hx ho).2, (hk _ _ hxd hd).2, h1, h2, h3, Rep.map hk hr⟩
  case meth n rels m =>
    obtain ⟨q, a, e, hq, hqo, hx, dx, es, ep, lv, t, hxd, ho, hd, h1, h2, h3, hr⟩ := r
    exact ⟨q, a, e, (hk _ _ hq hqo).1, (hk _ _ hq hqo).2, (hk _ _ hx ho).1, dx, es, ep, lv, t, (hk _ _ hxd hd).1, (hk _ _ hx ho).2, (hk _ _ hxd hd).2, h1, h2, h3, Rep.map hk hr⟩
  all_goals exact r

theorem RepVs.map {W : Wd} {X X' : Addr → Prop} {h h' : Heap} (hk : ∀ b o, ¬ X b → h.get? b = some o → ¬ X' b ∧ h'.get? b = some o) {us : List Value} {vs : List V} (r : RepVs W X h us vs) : RepVs W X' h' us vs := by
  induction r with
  | nil => exact .nil
  | cons h1 _ ih => exact .cons (RepV.map hk h1) ih

/-- what every state of the call keeps -/
structure Inv (W : Wd) (σ : Nat) (h : Heap) : Prop where
  base : ∀ b o, W.h₀.get? b = some o → h.get? b = some o
  feed : W.F h σ
  fdat : ∃ o, h.get? W.fd = some o
  clat : ∃ o, h.get? W.cl = some o

/-- the facts of the world that the proofs lean on -/
structure WdOk (W : Wd) : Prop where
  ns : W.h₀.Ns mainGlobals W.mg
  nb : W.h₀.Ns builtinsNs W.mb
  lim : W.h₀.NoLimit
  inK : W.K.In W.h₀
  sys : ∃ a o, sysModules < a ∧ W.h₀.get? a = some o
  fvr : W.fv "range" = .type "range"
  fve : W.fv "enumerate" = .type "enumerate"

theorem ints_reps {X X' : Addr → Prop} {h h' : Heap} : ∀ {ns : List Int} {vs : List Value}, Reps X h vs (ns.map .int) → Reps X' h' vs (ns.map .int)
  | [], _, r => by cases r; exact .nil
  | n :: ns, _, r => by
    cases r with
    | cons h1 r =>
      cases h1
      exact .cons (.int _ _) (ints_reps r)
theorem Wd.stab (W : Wd) {h h' : Heap} {σ : Nat} (k : ∀ b o, b = W.fd ∨ b = W.cl → h.get? b = some o → h'.get? b = some o) (f : W.F h σ) : W.F h' σ := by
  obtain ⟨⟨t, hD⟩, o, vs, n, ho, hc, hd, hn, hr⟩ := f
  exact ⟨⟨t, Heap.DictOf.at' hD fun o e => k _ o (.inl rfl) e⟩, o, vs, n, k _ o (.inr rfl) ho, hc, hd, hn, ints_reps hr⟩

/-- the addresses that a frame may turn, and more: no datum, no part of the world stands there -/
structure XOk (W : Wd) (X : Addr → Prop) (h : Heap) : Prop where
  at_ : ∀ b, X b → ∃ o, h.get? b = some o
  base : ∀ b, X b → W.h₀.get? b = none
  fd : X W.fd
  cl : ¬ X W.cl

/-- all but the feed is kept -/
noncomputable def Gr (W : Wd) (h h' : Heap) : Prop := ∀ b o, b ≠ W.fd → h.get? b = some o → h'.get? b = some o

/-- all but some addresses of X is kept, the feed too -/
noncomputable def Kp (W : Wd) (X : Addr → Prop) (h h' : Heap) : Prop := ∀ b o, ¬ X b ∨ b = W.fd → h.get? b = some o → h'.get? b = some o

theorem size_le_of_get {h h' : Heap} (hs : ∀ a, a < h.objs.size → a < h'.objs.size) : h.objs.size ≤ h'.objs.size := by
  rcases Nat.lt_or_ge h'.objs.size h.objs.size with q | q
  · exact absurd (hs _ q) (Nat.lt_irrefl _)
  · exact q

section
variable {W : Wd} {X : Addr → Prop} {h h' : Heap} {σ σ' : Nat}
theorem XOk.lt (x : XOk W X h) {b : Addr} (hb : X b) : b < h.objs.size := let ⟨_, e⟩ := x.at_ b hb; Heap.lt_size e
theorem XOk.new (x : XOk W X h) : ¬ X h.objs.size := fun q => Nat.lt_irrefl _ (x.lt q)
theorem XOk.newer (x : XOk W X h) {a : Addr} (ha : h.objs.size ≤ a) : ¬ X a := fun q => Nat.lt_irrefl _ (Nat.lt_of_lt_of_le (x.lt q) ha)
theorem XOk.gr (x : XOk W X h) (g : Gr W h h') (i : Inv W σ' h') : XOk W X h' where
  at_ := fun b hb => by
    by_cases q : b = W.fd
    · exact q ▸ i.fdat
    · obtain ⟨o, e⟩ := x.at_ b hb
      exact ⟨o, g b o q e⟩
  base := x.base
  fd := x.fd
  cl := x.cl
theorem XOk.keeps (x : XOk W X h) (k : ∀ b o, h.get? b = some o → h'.get? b = some o) : XOk W X h' := ⟨fun b hb => let ⟨o, e⟩ := x.at_ b hb; ⟨o, k b o e⟩, x.base, x.fd, x.cl⟩
theorem Inv.keeps (O : WdOk W) (i : Inv W σ h) (k : ∀ b o, h.get? b = some o → h'.get? b = some o) : Inv W σ h' :=
  ⟨fun b o e => k b o (i.base b o e), W.stab (fun b o _ e => k b o e) i.feed, let ⟨o, e⟩ := i.fdat; ⟨o, k _ _ e⟩, let ⟨o, e⟩ := i.clat; ⟨o, k _ _ e⟩⟩
theorem Inv.kp (O : WdOk W) (x : XOk W X h) (i : Inv W σ h) (k : Kp W X h h') : Inv W σ h' :=
  ⟨fun b o e => k b o (.inl fun q => by have := x.base b q; rw [this] at e; cases e) (i.base b o e), W.stab (fun b o hb e => k b o (hb.elim .inr fun q => .inl (q ▸ x.cl)) e) i.feed,
    let ⟨o, e⟩ := i.fdat; ⟨o, k _ _ (.inr rfl) e⟩, let ⟨o, e⟩ := i.clat; ⟨o, k _ _ (.inl x.cl) e⟩⟩
theorem Gr.refl : Gr W h h := fun _ _ _ e => e
theorem Gr.trans {h'' : Heap} (a : Gr W h h') (b : Gr W h' h'') : Gr W h h'' := fun x o hx e => b x o hx (a x o hx e)
theorem Gr.of_keeps (k : ∀ b o, h.get? b = some o → h'.get? b = some o) : Gr W h h' := fun b o _ e => k b o e
theorem Kp.of_keeps (k : ∀ b o, h.get? b = some o → h'.get? b = some o) : Kp W X h h' := fun b o _ e => k b o e
theorem Kp.trans {h'' : Heap} (a : Kp W X h h') (b : Kp W X h' h'') : Kp W X h h'' := fun x o hx e => b x o hx (a x o hx e)

theorem RepV.gr {u : Value} {v : V} (x : XOk W X h) (g : Gr W h h') (r : RepV W X h u v) : RepV W X h' u v :=
  r.map fun b o hx e => ⟨hx, g b o (fun q => hx (q ▸ x.fd)) e⟩
theorem RepVs.gr {us : List Value} {vs : List V} (x : XOk W X h) (g : Gr W h h') (r : RepVs W X h us vs) : RepVs W X h' us vs :=
  r.map fun b o hx e => ⟨hx, g b o (fun q => hx (q ▸ x.fd)) e⟩
theorem RepV.kp {u : Value} {v : V} (k : Kp W X h h') (r : RepV W X h u v) : RepV W X h' u v := r.map fun b o hx e => ⟨hx, k b o (.inl hx) e⟩
theorem Rep.kp {u : Value} {v : D} (k : Kp W X h h') (r : Rep X h u v) : Rep X h' u v := r.map fun b o hx e => ⟨hx, k b o (.inl hx) e⟩
theorem Rep.gr {u : Value} {v : D} (x : XOk W X h) (g : Gr W h h') (r : Rep X h u v) : Rep X h' u v :=
  r.map fun b o hx e => ⟨hx, g b o (fun q => hx (q ▸ x.fd)) e⟩
theorem Reps.gr {u : List Value} {v : List D} (x : XOk W X h) (g : Gr W h h') (r : Reps X h u v) : Reps X h' u v :=
  r.map fun b o hx e => ⟨hx, g b o (fun q => hx (q ▸ x.fd)) e⟩
theorem Reps.kp {u : List Value} {v : List D} (k : Kp W X h h') (r : Reps X h u v) : Reps X h' u v := r.map fun b o hx e => ⟨hx, k b o (.inl hx) e⟩

/-- new addresses may be shut out -/
theorem RepV.shut {Y : Addr → Prop} {u : Value} {v : V} (hy : ∀ b, Y b → X b ∨ h.objs.size ≤ b) (r : RepV W X h u v) : RepV W Y h u v :=
  r.map fun b _ hx e => ⟨fun q => (hy b q).elim hx fun q' => absurd (Heap.lt_size e) (Nat.not_lt.mpr q'), e⟩
theorem RepVs.shut {Y : Addr → Prop} {us : List Value} {vs : List V} (hy : ∀ b, Y b → X b ∨ h.objs.size ≤ b) (r : RepVs W X h us vs) : RepVs W Y h us vs :=
  r.map fun b _ hx e => ⟨fun q => (hy b q).elim hx fun q' => absurd (Heap.lt_size e) (Nat.not_lt.mpr q'), e⟩
theorem Reps.shut {Y : Addr → Prop} {us : List Value} {vs : List D} (hy : ∀ b, Y b → X b ∨ h.objs.size ≤ b) (r : Reps X h us vs) : Reps Y h us vs :=
  r.map fun b _ hx e => ⟨fun q => (hy b q).elim hx fun q' => absurd (Heap.lt_size e) (Nat.not_lt.mpr q'), e⟩
theorem RepV.wide {Y : Addr → Prop} {u : Value} {v : V} (hy : ∀ b, Y b → X b) (r : RepV W X h u v) : RepV W Y h u v := r.map fun b _ hx e => ⟨fun q => hx (hy b q), e⟩
theorem Rep.wide {Y : Addr → Prop} {u : Value} {v : D} (hy : ∀ b, Y b → X b) (r : Rep X h u v) : Rep Y h u v := r.map fun b _ hx e => ⟨fun q => hx (hy b q), e⟩
theorem Reps.wide {Y : Addr → Prop} {u : List Value} {v : List D} (hy : ∀ b, Y b → X b) (r : Reps X h u v) : Reps Y h u v := r.map fun b _ hx e => ⟨fun q => hx (hy b q), e⟩
end
end Mine

end

section
open PySem PySem.W PySem.Calls PyProof.Rows PySem.Spec
namespace Mine

theorem lim_size {n : Nat} (h : n < LIM) : n ≤ sizeLine := by unfold LIM at h; rw [sizeLine_eq]; omega

section
variable {W : Wd} {X : Addr → Prop} {A : Around} {E : Value → Shared → Prop} {s : Shared} {Q : Value → Shared → Prop}

theorem push_keeps (h : Heap) (o : Obj) : ∀ b x, h.get? b = some x → (h.push o).get? b = some x := fun _ _ e => Heap.get?_push_of_some _ e

/-- a new tuple is a datum -/
theorem Rep.newTup {h h' : Heap} {vs : Array Value} {ds : List D} {a : Addr} {n : Nat} (hx : ¬ X a) (ho : h'.get? a = some { cls := .type "tuple", data := .seq vs n }) (hk : ∀ b o, h.get? b = some o → h'.get? b = some o)
    (r : Reps X h vs.toList ds) (hl : ds.length < LIM) : Rep X h' (.ref a) (.tup ds) :=
  .tup hx ho rfl rfl (r.map fun b o hb e => ⟨hb, hk b o e⟩) hl
theorem Rep.newList {h h' : Heap} {vs : Array Value} {ds : List D} {a : Addr} {n : Nat} (hx : ¬ X a) (ho : h'.get? a = some { cls := .type "list", data := .seq vs n }) (hk : ∀ b o, h.get? b = some o → h'.get? b = some o)
    (r : Reps X h vs.toList ds) (hl : ds.length < LIM) : Rep X h' (.ref a) (.list ds) :=
  .list hx ho rfl rfl rfl (r.map fun b o hb e => ⟨hb, hk b o e⟩) hl

theorem tup_add {ds es : List D} {ua ub : Value} (ra : Rep X s.heap ua (.tup ds)) (rb : Rep X s.heap ub (.tup es)) (x : XOk W X s.heap) (hl : ds.length + es.length < LIM)
    (h : ∀ u h' tk, (∀ b o, s.heap.get? b = some o → h'.get? b = some o) → Rep X h' u (.tup (ds ++ es)) → Q u { s with heap := h', toks := tk }) :
    wpAny (model W.prog W.w) A (binaryOp .Add ua ub) Q E s := by
  cases ra with
  | @tup l o vs n _ hx ho hc hd hr hl1 =>
    cases rb with
    | @tup l2 o2 vs2 n2 _ hx2 ho2 hc2 hd2 hr2 hl2 =>
      obtain ⟨cls, dd, data, sl⟩ := o
      obtain ⟨cls2, dd2, data2, sl2⟩ := o2
      simp only at hc hd hc2 hd2
      subst hc hd hc2 hd2
      have e1 := hr.length
      have e2 := hr2.length
      by_cases hc0 : vs.isEmpty = true
      · refine concat_meets ⟨_, ho, rfl⟩ ⟨_, ho2, rfl⟩ noFill_tuple_add seq_tuple_add PySem.F.slot_tuple_add PySem.F.entry_tuple_add (PySem.F.args_tuple_add_2 _ _) (tuple_addW0 l l2 vs vs2 n n2 dd dd2 sl sl2 hc0) ⟨ho, ho2, ?_⟩
        have hv : vs = #[] := by simpa using hc0
        subst hv
        have : ds = [] := by
          cases ds with
          | nil => rfl
          | cons d ds => simp at e1
        subst this
        exact h _ s.heap s.toks (fun _ _ e => e) (.tup hx2 ho2 rfl rfl hr2 hl2)
      · by_cases hc1 : vs2.isEmpty = true
        · refine concat_meets ⟨_, ho, rfl⟩ ⟨_, ho2, rfl⟩ noFill_tuple_add seq_tuple_add PySem.F.slot_tuple_add PySem.F.entry_tuple_add (PySem.F.args_tuple_add_2 _ _) (tuple_addW1 l l2 vs vs2 n n2 dd dd2 sl sl2 hc0 hc1) ⟨ho, ho2, ?_⟩
          have hv : vs2 = #[] := by simpa using hc1
          subst hv
          have : es = [] := by
            cases es with
            | nil => rfl
            | cons d ds => simp at e2
          subst this
          refine h _ s.heap s.toks (fun _ _ e => e) ?_
          rw [List.append_nil]
          exact .tup hx ho rfl rfl hr hl1
        · refine concat_meets ⟨_, ho, rfl⟩ ⟨_, ho2, rfl⟩ noFill_tuple_add seq_tuple_add PySem.F.slot_tuple_add PySem.F.entry_tuple_add (PySem.F.args_tuple_add_2 _ _) (tuple_addW2 l l2 vs vs2 n n2 dd dd2 sl sl2 hc0 hc1 (by
            have : vs.size = ds.length := by simpa using e1
            have : vs2.size = es.length := by simpa using e2
            exact lim_size (by omega))) ⟨ho, ho2, ?_⟩
          refine h _ _ s.toks (push_keeps _ _) (Rep.newTup x.new (Heap.get?_push_size _ rfl) (push_keeps _ _) ?_ (by simpa using hl))
          rw [Array.toList_append]
          exact Reps.append hr2 hr

theorem intBits_small {a : Int} (h : a.natAbs < 4294967296) : Builtin.Int.intBits a ≤ 64 := by
  unfold Builtin.Int.intBits
  by_cases h0 : a.natAbs = 0
  · simp [h0]; split <;> omega
  · have : a.natAbs.log2 < 32 := (Nat.log2_lt h0).mpr h
    split <;> omega

theorem int_rep' {d : D} {i : Int} {u : Value} (e : intD? d = some i) (r : Rep X s.heap u d) : ∃ t, u = .int i t := by
  rw [intD_inv e] at r
  cases r with
  | int _ t => exact ⟨t, rfl⟩
theorem bool_rep' {d : D} {b : Bool} {u : Value} (e : boolD? d = some b) (r : Rep X s.heap u d) : u = .bool b := by
  rw [boolD_inv e] at r
  cases r; rfl
theorem str_rep' {d : D} {x : Str} {u : Value} (e : strD? d = some x) (r : Rep X s.heap u d) : ∃ t, u = .str x t := by
  rw [strD_inv e] at r
  cases r with
  | str _ t => exact ⟨t, rfl⟩

theorem int_ok' {op : Operator} {a b : Int} {d : D} {ta tb : Tok} (hd : intOp a b op = some d)
    (h : ∀ u h' tk, (∀ b o, s.heap.get? b = some o → h'.get? b = some o) → Rep X h' u d → Q u { s with heap := h', toks := tk }) :
    wpAny (model W.prog W.w) A (binaryOp op (.int a ta) (.int b tb)) Q E s := by
  have fin : ∀ i t tk, some (D.int i) = some d → Q (.int i t) { s with heap := s.heap, toks := tk } := fun i t tk e => h _ s.heap tk (fun _ _ e => e) (by rw [← Option.some.inj e]; exact .int _ _)
  clear h
  induction op using Operator.casesOn
  case Add => exact PyProof.Rows.add_int (fin _ _ _ hd)
  case Sub => exact PyProof.Rows.sub_int (fin _ _ _ hd)
  case Mult => exact ifS hd fun hc hd => PyProof.Rows.mul_int (fin _ _ _ hd) (.of_left (intBits_small hc.1))
  case Mod =>
    refine ifS hd fun hc hd => PyProof.Rows.mod_int (by omega) ?_
    rw [Int.fmod_eq_emod_of_nonneg _ (Int.le_of_lt hc)]
    exact fin _ _ _ hd
  case FloorDiv =>
    refine ifS hd fun hc hd => PyProof.Rows.floordiv_int (by omega) ?_ (Or.inl (PyProof.noPylong_small (by omega)))
    rw [Int.fdiv_eq_ediv_of_nonneg _ (Int.le_of_lt hc.1)]
    exact fin _ _ _ hd
  case Pow =>
    refine ifS hd fun hc hd9 => ?_
    obtain ⟨rfl, h0, h1⟩ := hc
    refine PyProof.Rows.pow_int h0 ?_ (fin _ _ _ hd9)
    rw [show Builtin.Int.intBits 2 = 2 by decide +kernel]
    have h27 : (2 : Int) ^ 27 = 134217728 := by decide
    omega
  case RShift =>
    refine ifS hd fun hc hd => PyProof.Rows.rshift_int hc.2.1 ?_
    rw [Int.fdiv_eq_ediv_of_nonneg _ (Int.le_of_lt (kbt_pos _))]
    exact fin _ _ _ hd
  case BitAnd =>
    refine ifS hd fun hc hd9 => ?_
    obtain ⟨h0, rfl⟩ := hc
    refine PyProof.Rows.and_int ?_
    have := kbt_mask a 1
    rw [show (2 : Int) ^ 1 - 1 = 1 by decide, show (2 : Int) ^ 1 = 2 by decide] at this
    rw [this]
    exact fin _ _ _ hd9
  all_goals exact nos hd

theorem bin_ok {op : Operator} {a b d : D} {ua ub : Value} (hd : binD op a b = some d) (ra : Rep X s.heap ua a) (rb : Rep X s.heap ub b) (x : XOk W X s.heap)
    (h : ∀ u h' tk, (∀ b o, s.heap.get? b = some o → h'.get? b = some o) → Rep X h' u d → Q u { s with heap := h', toks := tk }) :
    wpAny (model W.prog W.w) A (binaryOp op ua ub) Q E s := by
  refine ocK hd (fun _ hd => bindK hd fun x1 h1 hd => bindK hd fun y1 h2 hd => ?_) fun i h1 hd => bindK hd fun j h2 hd => ?_
  · rw [tupD_inv h1] at ra
    rw [tupD_inv h2] at rb
    induction op using Operator.casesOn
    case Add => exact ifS hd fun hl hd => tup_add ra rb x hl (by rw [Option.some.inj hd]; exact h)
    all_goals exact nos hd
  · obtain ⟨_, rfl⟩ := int_rep' h1 ra
    obtain ⟨_, rfl⟩ := int_rep' h2 rb
    exact int_ok' hd h

theorem D.eqvs_iff : ∀ (ds es : List D), (∀ d ∈ ds, ∀ e, D.eqv d e = true ↔ d = e) → (D.eqvs ds es = true ↔ ds = es) := by
  intro ds
  induction ds with
  | nil => intro es _; cases es with
    | nil => exact ⟨fun _ => rfl, fun _ => rfl⟩
    | cons => exact no_iff (fun h => nomatch h)
  | cons d ds ih =>
    intro es h
    cases es with
    | nil => exact no_iff (fun h => nomatch h)
    | cons e es => simp only [eqvs_cc, Bool.and_eq_true, h d (.head _) e, ih es fun x hx => h x (.tail _ hx), List.cons.injEq]
theorem D.eqv_iff (d : D) : ∀ e, D.eqv d e = true ↔ d = e := by
  refine D.rec (motive_1 := fun d => ∀ e, D.eqv d e = true ↔ d = e) (motive_2 := fun ds => ∀ d ∈ ds, ∀ e, D.eqv d e = true ↔ d = e) ?_ ?_ ?_ ?_ ?_ ?_ ?_ ?_ d
  · intro e; cases e <;> first | exact ⟨fun _ => rfl, fun _ => rfl⟩ | exact no_iff (fun h => nomatch h)
  · intro b e; cases e <;> first | exact no_iff (fun h => nomatch h) | simp [eqv_b]
  · intro b e; cases e <;> first | exact no_iff (fun h => nomatch h) | simp [eqv_i]
  · intro b e; cases e <;> first | exact no_iff (fun h => nomatch h) | simp [eqv_s]
  · intro ds ih e
    cases e with
    | tup es => simp [eqv_t, D.eqvs_iff ds es ih]
    | _ => exact no_iff (fun h => nomatch h)
  · intro ds ih e
    cases e with
    | list es => simp [eqv_l, D.eqvs_iff ds es ih]
    | _ => exact no_iff (fun h => nomatch h)
  · intro d hd; cases hd
  · intro d ds h1 h2 x hx
    rcases List.mem_cons.mp hx with rfl | hx
    · exact h1
    · exact h2 x hx

theorem notIn_of_in {M : Model} {x c : Value} (h : wpAny M A (compareOp .In x c) (fun v s' => ∀ b, v = .bool b → Q (.bool (!b)) s') E s) : wpAny M A (compareOp .NotIn x c) Q E s := by
  intro Γ p hΓ
  have h' : Sem.wp M Γ (contains c x >>= fun b => pure (Value.bool b)) (fun v _ s' => ∀ b, v = .bool b → Q (.bool (!b)) s') (fun e _ s' => E e s') p s := h Γ p hΓ
  show Sem.wp M Γ (contains c x >>= fun b => pure (Value.bool (!b))) _ _ p s
  rw [Sem.wp_bind'] at h' ⊢
  refine Sem.wp_mono M Γ _ (fun b p' s' hb => ?_) (fun _ _ _ h => h) p s h'
  rw [Sem.wp_pure'] at hb ⊢
  exact hb b rfl

theorem row_of_isRow {d : D} (h : isRow d = true) : ∃ r, d = rowD r := by
  cases d with
  | tup ds =>
    refine ⟨rowInts (.tup ds), ?_⟩
    unfold rowD rowInts
    congr 1
    simp only [isRow, List.all_eq_true] at h
    rw [List.map_map]
    conv => lhs; rw [← List.map_id ds]
    refine List.map_congr_left fun d hd => ?_
    have := h d hd
    cases d <;> simp at this ⊢
  | _ => simp [isRow] at h
theorem rowD_inj {a b : List Int} (h : rowD a = rowD b) : a = b := by
  unfold rowD at h
  injection h with h
  exact List.map_inj_right (fun x y e => by injection e) |>.mp h

theorem ints_items {W : Wd} {h : Heap} : ∀ {r : List Int} {vs : List Value}, Reps X h vs (r.map .int) → ItemsAre (intKey W) r vs
  | [], vs, q => by cases q; exact .nil
  | i :: r, vs, q => by
    cases q with
    | cons h1 q =>
      cases h1 with
      | int _ t => exact .cons (by show Value.isInt i (.int i t) = true; simp [Value.isInt]) (ints_items q)
theorem Rep.rowKey {h : Heap} {a : Addr} {r : List Int} (q : Rep X h (.ref a) (rowD r)) : (rowKey W).is h r a := by
  unfold rowD at q
  cases q with
  | tup hx ho hc hd hr hl => exact ⟨_, _, _, ho, hc, hd, ints_items hr⟩

theorem find_some_any {α : Type} (p : α → Bool) (l : List α) : (l.find? p).isSome = l.any p := by
  rw [Bool.eq_iff_iff, List.find?_isSome, List.any_eq_true]
theorem pys_any {a : D} (h1 : a.simple 4 = true) : ∀ {ds : List D}, D.simples 4 ds = true → (D.pys ds).any (fun y => PyData.eqv y a.py) = ds.any fun d => d.eqv a := by
  intro ds
  induction ds with
  | nil => intro _; rfl
  | cons d ds ih =>
    intro h2
    simp only [simples_c, Bool.and_eq_true] at h2
    simp only [D.pys, List.any_cons, eqv_py 4 d a 4 h2.1 h1, ih h2.2]
theorem any_of_key {xs : List (List Int × Addr × Value)} {r : List Int} : ((atKey xs r).isSome) = (xs.map fun x => rowD x.1).any fun d => d.eqv (rowD r) := by
  unfold atKey
  rw [Option.isSome_map, List.any_map, find_some_any]
  congr 1
  funext x
  simp only [Function.comp]
  by_cases q : x.1 = r
  · subst q
    rw [decide_eq_true rfl]
    exact ((D.eqv_iff _ _).mpr rfl).symm
  · rw [decide_eq_false q]
    refine (Bool.eq_false_iff.mpr fun q' => q ?_).symm
    exact rowD_inj ((D.eqv_iff _ _).mp q')
theorem any_of_int {kvs : List (Int × Value)} {i : Int} : ((valueAt kvs i).isSome) = (kvs.map fun x => D.int x.1).any fun d => d.eqv (.int i) := by
  unfold valueAt
  rw [Option.isSome_map, List.any_map, find_some_any]
  congr 1

theorem keys_in {a : D} {ks : List D} {ua ub : Value} (hA : A.units + 64 < cLine) (hk : ((isRow a && ks.all isRow) || (isInt a && ks.all isInt)) = true) (ra : Rep X s.heap ua a) (rb : RepV W X s.heap ub (.keys ks))
    (h : ∀ tk, Q (.bool (ks.any fun d => d.eqv a)) { s with toks := tk }) : wpAny (model W.prog W.w) A (compareOp .In ua ub) Q E s := by
  obtain ⟨b, rfl, hx, hsys, hK⟩ := rb
  have hu1 : A.in1.units < cLine := by show A.units + 1 < cLine; omega
  rcases Bool.or_eq_true_iff.mp hk with hk | hk
  · obtain ⟨h1, h2⟩ := Bool.and_eq_true_iff.mp hk
    obtain ⟨r, rfl⟩ := row_of_isRow h1
    obtain ⟨ka, rfl⟩ : ∃ ka, ua = .ref ka := by cases ra; exact ⟨_, rfl⟩
    have hkey : (rowKey W).is s.heap r ka := Rep.rowKey ra
    have go : ∀ xs, s.heap.DictOfH (rowKey W) b xs → ks = xs.map (fun x => rowD x.1) → wpAny (model W.prog W.w) A (compareOp .In (.ref ka) (.ref b)) Q E s := fun xs hD he => by
      refine wpAny_in_heap hu1 hkey hsys hD ?_
      rw [any_of_key, ← he]
      exact h _
    rcases hK with ⟨xs, hD, he, _⟩ | ⟨kvs, hD, he⟩
    · exact go xs hD he
    · cases kvs with
      | nil =>
        obtain ⟨o, es, ep, ho, hc, hd, _, hp, _⟩ := hD
        refine go [] ⟨o, es, ep, ho, hc, hd, ?_, fun _ hx => by simp at hx, List.nodup_nil⟩ he
        cases hp' : es.toList with
        | nil => rfl
        | cons e r => rw [hp'] at hp; cases hp
      | cons p r =>
        subst he
        simp [isRow] at h2
  · obtain ⟨h1, h2⟩ := Bool.and_eq_true_iff.mp hk
    cases ra with
    | int i t =>
      have go : ∀ kvs, s.heap.DictOf (intKey W) b kvs → ks = kvs.map (fun x => D.int x.1) → wpAny (model W.prog W.w) A (compareOp .In (.int i t) (.ref b)) Q E s := fun kvs hD he => by
        refine wpAny_in_of (knd := intKey W) (k := i) (by show Value.isInt i (.int i t) = true; simp [Value.isInt]) hsys hD.mapOf ?_
        rw [any_of_int, ← he]
        exact h _
      rcases hK with ⟨xs, hD, he, _⟩ | ⟨kvs, hD, he⟩
      · cases xs with
        | nil =>
          obtain ⟨o, es, ep, ho, hc, hd, he2, _, _⟩ := hD
          have hnil : es = #[] := by simpa using he2
          subst hnil
          exact go [] ⟨o, #[], ep, ho, hc, hd, fun e q => by simp at q, .nil, List.nodup_nil⟩ he
        | cons p r =>
          subst he
          simp [isInt, rowD] at h2
      · exact go kvs hD he
    | _ => simp [isInt] at h1


theorem seqs_facts {a b : D} {p : List D × List D} (h : seqs? a b = some p) : a.simple 5 = D.simples 4 p.1 ∧ b.simple 5 = D.simples 4 p.2 ∧ D.eqv a b = D.eqvs p.1 p.2 := by
  refine ocK h (fun _ h => bindK h fun x h1 h => bindK h fun y h2 h => ?_) fun x h1 h => bindK h fun y h2 h => ?_
  · obtain rfl := Option.some.inj h
    rw [listD_inv h1, listD_inv h2]; exact ⟨rfl, rfl, rfl⟩
  · obtain rfl := Option.some.inj h
    rw [tupD_inv h1, tupD_inv h2]; exact ⟨rfl, rfl, rfl⟩
theorem shape_of {a : D} (h : a.simple 5 = true) : SeqAt.shaped a.py = true := by
  have l := simple_lay 5 a h
  unfold SeqAt.shaped
  rw [l.1, Bool.true_and]
  exact decide_eq_true (Nat.le_trans l.2 (by decide))
/-- two data compared: by what the comparison of the same kinds does -/
theorem eqs_ok {op : CmpOp} {a b : D} {c : Bool} {ua ub : Value} (hc : eqD a b = some c) (ra : Rep X s.heap ua a) (rb : Rep X s.heap ub b)
    (hi : ∀ i j t u, (i == j) = c → wpAny (model W.prog W.w) A (compareOp op (.int i t) (.int j u)) Q E s) (hb : ∀ i j, (i == j) = c → wpAny (model W.prog W.w) A (compareOp op (.bool i) (.bool j)) Q E s)
    (hs : ∀ i j t u, (i == j) = c → wpAny (model W.prog W.w) A (compareOp op (.str i t) (.str j u)) Q E s)
    (hd : ∀ {as bs}, Reads s.heap ua a.py as → Reads s.heap ub b.py bs → SeqAt.shaped a.py = true → SeqAt.shaped b.py = true → PyData.eqv a.py b.py = c → wpAny (model W.prog W.w) A (compareOp op ua ub) Q E s) :
    wpAny (model W.prog W.w) A (compareOp op ua ub) Q E s := by
  refine ocK hc (fun _ hc => ocK hc (fun _ hc => ocK hc (fun _ hc => bindK hc fun i h1 hc => bindK hc fun j h2 hc => ?_) fun i h1 hc => bindK hc fun j h2 hc => ?_) fun i h1 hc => bindK hc fun j h2 hc => ?_) fun p hp hc => ifS hc fun hs hc => andK hs fun q1 q2 => ?_
  · obtain ⟨_, rfl⟩ := str_rep' h1 ra
    obtain ⟨_, rfl⟩ := str_rep' h2 rb
    exact hs _ _ _ _ (Option.some.inj hc)
  · obtain rfl := bool_rep' h1 ra
    obtain rfl := bool_rep' h2 rb
    exact hb _ _ (Option.some.inj hc)
  · obtain ⟨_, rfl⟩ := int_rep' h1 ra
    obtain ⟨_, rfl⟩ := int_rep' h2 rb
    exact hi _ _ _ _ (Option.some.inj hc)
  · obtain ⟨f1, f2, f3⟩ := seqs_facts hp
    have s1 := f1.trans q1
    have s2 := f2.trans q2
    obtain ⟨as, qa⟩ := ra.reads
    obtain ⟨bs, qb⟩ := rb.reads
    exact hd qa qb (shape_of s1) (shape_of s2) (by rw [eqv_py 5 _ _ 5 s1 s2, f3]; exact Option.some.inj hc)
theorem eq_ok {a b : D} {c : Bool} {ua ub : Value} (hc : eqD a b = some c) (hA : A.units + 64 < cLine) (ra : Rep X s.heap ua a) (rb : Rep X s.heap ub b)
    (h : Q (.bool c) s) : wpAny (model W.prog W.w) A (compareOp .Eq ua ub) Q E s :=
  eqs_ok hc ra rb (fun _ _ _ _ e => PyProof.Rows.eq_int (by rw [e]; exact h)) (fun _ _ e => PyProof.Rows.eq_bool (by rw [e]; exact h)) (fun _ _ _ _ e => PyProof.Rows.eq_str (by rw [e]; exact h)) fun qa qb l1 l2 e => eq_dataH qa qb l1 l2 hA (by rw [e]; exact h)
theorem ne_ok {a b : D} {c : Bool} {ua ub : Value} (hc : eqD a b = some c) (hA : A.units + 64 < cLine) (ra : Rep X s.heap ua a) (rb : Rep X s.heap ub b)
    (h : Q (.bool (!c)) s) : wpAny (model W.prog W.w) A (compareOp .NotEq ua ub) Q E s :=
  eqs_ok hc ra rb (fun _ _ _ _ e => PyProof.Rows.ne_int (by show Q (.bool (!_)) s; rw [e]; exact h)) (fun _ _ e => PyProof.Rows.ne_bool (by show Q (.bool (!_)) s; rw [e]; exact h)) (fun _ _ _ _ e => PyProof.Rows.ne_str (by show Q (.bool (!_)) s; rw [e]; exact h)) fun qa qb l1 l2 e => ne_dataH qa qb l1 l2 hA (by rw [e]; exact h)

theorem in_ok {a b : D} {c : Bool} {ua ub : Value} (hc : inD a b = some c) (hA : A.units + 64 < cLine) (ra : Rep X s.heap ua a) (rb : Rep X s.heap ub b)
    (h : Q (.bool c) s) : wpAny (model W.prog W.w) A (compareOp .In ua ub) Q E s := by
  refine bindK hc fun ds hd hc => ifS hc fun hs hc => andK hs fun h1 h2 => ?_
  obtain rfl := Option.some.inj hc
  rw [tupD_inv hd] at rb
  obtain ⟨as, qa⟩ := ra.reads
  obtain ⟨bs, qb⟩ := rb.reads
  have l1 := simple_lay 4 a h1
  have l2 := simple_lay 5 (.tup ds) h2
  rw [D.py] at qb l2
  simp only [PyData.canLay0, PyData.depth] at l2
  refine SeqAt.in_tuple_reads qb qa l2.1 l1.1 ?_ (by rw [pys_any h1 h2]; exact h)
  have h9 := Nat.min_le_right (PyData.depthAll (D.pys ds)) a.py.depth
  have h10 := l1.2
  omega

theorem lt_ok {f : Int → Int → Bool} {op : CmpOp} {a b : D} {c : Bool} {ua ub : Value} (hc : ltD f a b = some c) (ra : Rep X s.heap ua a) (rb : Rep X s.heap ub b)
    (h : ∀ x y t u, f x y = c → wpAny (model W.prog W.w) A (compareOp op (.int x t) (.int y u)) Q E s) : wpAny (model W.prog W.w) A (compareOp op ua ub) Q E s := by
  refine bindK hc fun i h1 hc => bindK hc fun j h2 hc => ?_
  obtain ⟨_, rfl⟩ := int_rep' h1 ra
  obtain ⟨_, rfl⟩ := int_rep' h2 rb
  exact h _ _ _ _ (Option.some.inj hc)

theorem cmpD_ok {op : CmpOp} {a b : D} {c : Bool} {ua ub : Value} (hc : cmpD a b op = some c) (hA : A.units + 64 < cLine) (ra : Rep X s.heap ua a) (rb : Rep X s.heap ub b)
    (h : ∀ tk, Q (.bool c) { s with toks := tk }) : wpAny (model W.prog W.w) A (compareOp op ua ub) Q E s := by
  induction op using CmpOp.casesOn
  case Eq => exact eq_ok hc hA ra rb (h _)
  case NotEq => exact bindK hc fun c' h1 hc => ne_ok h1 hA ra rb (by rw [Option.some.inj hc]; exact h _)
  case Lt => exact lt_ok hc ra rb fun x y t u e => PyProof.Rows.lt_int (by rw [e]; exact h _)
  case LtE => exact lt_ok hc ra rb fun x y t u e => PyProof.Rows.le_int (by rw [e]; exact h _)
  case Gt => exact lt_ok hc ra rb fun x y t u e => PyProof.Rows.gt_int (by rw [e]; exact h _)
  case IsNot =>
    refine bindK hc fun i h1 hc => bindK hc fun j h2 hc => ?_
    obtain rfl := bool_rep' h1 ra
    obtain rfl := bool_rep' h2 rb
    obtain rfl := Option.some.inj hc
    exact PyProof.Rows.isnot_bool (h _)
  case In => exact in_ok hc hA ra rb (h _)
  all_goals exact nos hc

theorem cmp_ok {op : CmpOp} {a b : V} {c : Bool} {ua ub : Value} (hc : cmpV op a b = some c) (hA : A.units + 64 < cLine) (ra : RepV W X s.heap ua a) (rb : RepV W X s.heap ub b)
    (h : ∀ tk, Q (.bool c) { s with toks := tk }) : wpAny (model W.prog W.w) A (compareOp op ua ub) Q E s := by
  refine bindK hc fun x hx hc => ocK hc (fun _ hc => bindK hc fun ks hk hc => ?_) fun y hy hc => ?_
  · rw [dOf_inv hx] at ra
    rw [keysOf_inv hk] at rb
    induction op using CmpOp.casesOn
    case In =>
      refine ifS hc fun hk hc => ?_
      obtain rfl := Option.some.inj hc
      exact keys_in hA hk ra rb h
    case NotIn =>
      refine ifS hc fun hk hc => notIn_of_in (keys_in hA hk ra rb fun tk b hb => ?_)
      obtain rfl := Option.some.inj hc
      cases hb
      exact h tk
    all_goals exact nos hc
  · rw [dOf_inv hx] at ra
    rw [dOf_inv hy] at rb
    exact cmpD_ok hc hA ra rb h
end
end Mine

end

section
open PySem PySem.W PySem.Calls PyProof.Rows PySem.Spec
namespace Mine

section
variable {W : Wd} {X : Addr → Prop} {σ : Nat} {A : Around} {E : Value → Shared → Prop} {s : Shared} {Q : Value → Shared → Prop}

theorem itemAt_idx {ds : List D} {i : Int} {d : D} (h : itemAt ds i = some d) (hl : ds.length < LIM) : ∃ j, seqIndex? i ds.length = some j ∧ ds[j]? = some d ∧ -(2 ^ 63) ≤ i ∧ i < 2 ^ 63 := by
  unfold LIM at hl
  unfold itemAt at h
  unfold seqIndex?
  split at h
  · rename_i h0
    have hj := (List.getElem?_eq_some_iff.mp h).1
    refine ⟨i.toNat, ?_, h, by omega, by omega⟩
    simp only [if_neg (show ¬ i < 0 by omega)]
    rw [if_pos (by simp; omega)]
  · split at h
    · rename_i h0 h1
      have hj := (List.getElem?_eq_some_iff.mp h).1
      refine ⟨(i + ds.length).toNat, ?_, h, by omega, by omega⟩
      simp only [if_pos (show i < 0 by omega)]
      rw [if_pos (by simp; omega)]
    · cases h

theorem item_ok {value slice : Expr} {a b v : V} {ua ub : Value} (hv : subV σ a b = some v) (x : XOk W X s.heap) (i : Inv W σ s.heap) (ra : RepV W X s.heap ua a) (rb : RepV W X s.heap ub b) (hs : ∀ o i, subscripted slice false o i = operate [o, i] (getItem o i))
    (h : ∀ u tk, RepV W X s.heap u v → Q u { s with toks := tk }) : wpAny (model W.prog W.w) A (subscriptTail value slice ua ub) Q E s := by
  refine bindK hv fun k hk hv => ocK hv (fun _ hv => bindK hv fun cs hc hv => bindK hv fun y hy hv => ?_) fun a9 ha hv => bindK hv fun ds hds hv => bindK hv fun j hj hv => bindK hv fun d hd hv => ?_
  all_goals rw [dOf_inv hk] at rb
  · rw [feedOf_inv hc] at ra; clear hc
    obtain ⟨⟨t, hD⟩, o, vs, n, ho, hc, hd, hn, hr⟩ := i.feed
    obtain ⟨rfl, rfl⟩ := ra
    obtain ⟨ty, rfl⟩ := str_rep' hy rb
    refine ifK hv (fun e hv => ?_) fun _ hv => ifS hv fun e hv => ifS hv fun hl hv => ?_
    · rw [eq_of_beq e]
      obtain rfl := Option.some.inj hv
      exact tail_any (T := "dict") (hD.typeIs) slot_dict_getitem.lookup (wpAny_getItem_of (knd := PySem.strKind W.prog W.w) (k := ("spot" : Str)) (by simp [PySem.strKind, Value.isStrOf]) hD.mapOf (v := .int σ t) (by rfl) (h _ _ (.int _ _))) (hs _ _)
    · rw [eq_of_beq e]
      obtain rfl := Option.some.inj hv
      exact tail_any (T := "dict") (hD.typeIs) slot_dict_getitem.lookup (wpAny_getItem_of (knd := PySem.strKind W.prog W.w) (k := ("cells" : Str)) (by simp [PySem.strKind, Value.isStrOf]) hD.mapOf (v := .ref W.cl) (by rfl) (h _ _ (.list x.cl ho hc hd hn (ints_reps hr) (by simpa using hl)))) (hs _ _)
  · rw [dOf_inv ha] at ra
    obtain ⟨tj, rfl⟩ := int_rep' hj rb
    obtain rfl := Option.some.inj hv
    clear hv ha hk rb hj
    induction a9 using D.casesOn
    case tup ds' =>
      obtain rfl : ds = ds' := (Option.some.inj hds).symm
      have ra' : Rep X s.heap ua (.tup ds) := ra
      cases ra' with
      | @tup a o vs n _ hx ho hc hdt hr hl =>
        obtain ⟨j', hj, hdj, h1, h2⟩ := itemAt_idx hd hl
        obtain ⟨u, hu, ru⟩ := hr.get hdj
        have ht : IsTup s.heap a vs := ⟨o, ho, hc, n, hdt⟩
        refine tail_any ht.typeIs PyProof.Rows.slot_tuple_getitem.lookup (getItem_tuple ht h1 h2 ?_ (by simpa using hu) (h u s.toks ru)) (hs _ _)
        have e := hr.length
        rw [Array.length_toList] at e
        rw [e]; exact hj
    case list ds' =>
      obtain rfl : ds = ds' := (Option.some.inj hds).symm
      have ra' : Rep X s.heap ua (.list ds) := ra
      cases ra' with
      | @list a o vs n _ hx ho hc hdt hdn hr hl =>
        have hlen := hr.length
        rw [Array.length_toList] at hlen
        have ht : s.heap.IsList a vs := ⟨o, ho, hc, n, hdt⟩
        unfold LIM at hl
        refine ifK hd (fun h0 hd => ?_) fun h0 hd => ifS hd fun h1 hd => ?_
        · obtain ⟨u, hu, ru⟩ := hr.get hd
          have hj := (List.getElem?_eq_some_iff.mp hd).1
          exact tail_any ht.typeIs list_getitem_lookup (wpAny_getItem_list ht h0 (by omega) (by simpa using hu) (h u s.toks ru)) (hs _ _)
        · obtain ⟨u, hu, ru⟩ := hr.get hd
          exact tail_any ht.typeIs list_getitem_lookup (wpAny_getItem_list_neg ht (by omega) (by omega) (by omega) (by rw [hlen]; simpa using hu) (h u s.toks ru)) (hs _ _)
    all_goals exact nos hds

/-! cuts -/
theorem slicePart_ok {v : Value} {x : Option Int} {Q : Option Int → Shared → Prop} (p : IsPart v x) (h : Q x s) : wpAny (model W.prog W.w) A (Builtin.Slice.slicePartIndex v) Q E s := by
  cases p with
  | none => exact PyProof.Rows.slicePart_none h
  | int i t => exact PyProof.Rows.slicePart_int h

theorem adjust_ok (lo hi : Option Int) (n : Nat) : Builtin.Slice.sliceAdjust lo hi 1 (n : Int) = (((match lo with | some i => clampTo n i | none => 0 : Nat) : Int), ((match hi with | some i => clampTo n i | none => n : Nat) : Int)) := by
  unfold Builtin.Slice.sliceAdjust clampTo
  have h1 : ¬ ((1 : Int) < 0) := by omega
  simp only [h1, if_false]
  refine Prod.ext ?_ ?_
  · cases lo with
    | none => rfl
    | some i => dsimp only; split <;> omega
  · cases hi with
    | none => rfl
    | some i => dsimp only; split <;> omega

theorem clamp_le (n : Nat) (i : Int) : clampTo n i ≤ n := by unfold clampTo; split <;> omega
theorem places_ok (l h : Nat) : Builtin.Slice.slicePlaces (l : Int) (h : Int) 1 = h - l := by
  unfold Builtin.Slice.slicePlaces
  have h1 : (1 : Int) > 0 := by omega
  simp only [h1, if_true, Int.ediv_one]
  split <;> omega

theorem pick_ok (xs : Array Value) (l h : Nat) : ((List.range (h - l)).filterMap fun (k : Nat) => xs[((l : Int) + (k : Int) * 1).toNat]?).toArray = ((xs.toList.take h).drop l).toArray := by
  have e : (fun (k : Nat) => xs[((l : Int) + (k : Int) * 1).toNat]?) = fun k => xs[l + k]? := by
    funext k
    have : ((l : Int) + (k : Int) * 1).toNat = l + k := by omega
    rw [this]
  rw [e]
  have := pick_run xs l (h - l)
  rw [List.filterMap_map] at this
  have e2 : ((fun x => xs[x]?) ∘ fun x => l + x) = fun k => xs[l + k]? := rfl
  rw [e2] at this
  rw [this, List.drop_take]

theorem cut_len (ds : List D) (lo hi : Option Int) : (cut ds lo hi).length ≤ ds.length := by
  unfold cut; simp only [List.length_drop, List.length_take]; omega

noncomputable def lowOf (n : Nat) (lo : Option Int) : Nat := match lo with | some i => clampTo n i | none => 0
noncomputable def highOf (n : Nat) (hi : Option Int) : Nat := match hi with | some i => clampTo n i | none => n
theorem cut_eq (ds : List D) (lo hi : Option Int) : cut ds lo hi = (ds.take (highOf ds.length hi)).drop (lowOf ds.length lo) := by
  unfold cut lowOf highOf; cases lo <;> cases hi <;> rfl
theorem high_le (n : Nat) (hi : Option Int) : highOf n hi ≤ n := by
  unfold highOf; cases hi with | none => exact Nat.le_refl _ | some i => exact clamp_le _ _

theorem applied_ok {sl : Addr} {n : Nat} {vl vu : Value} {lo hi : Option Int} {Q : Int × Int × Nat → Shared → Prop} (hs : s.heap.IsSliceOf sl vl vu .none) (pl : IsPart vl lo) (pu : IsPart vu hi)
    (h : Q ((lowOf n lo : Int), 1, highOf n hi - lowOf n lo) s) : wpAny (model W.prog W.w) A (Builtin.Slice.sliceApplied (.ref sl) (pure (n : Int))) Q E s := by
  obtain ⟨os, hos, hcs, hds⟩ := id hs
  unfold Builtin.Slice.sliceApplied Builtin.Slice.sliceFields
  refine wpAny_bind (wpAny_bind (wpAny_field hos hds (x := vl) rfl (wpAny_bind (wpAny_field hos hds (x := vu) rfl (wpAny_bind (wpAny_field hos hds (x := .none) rfl (wpAny_pure ?_)))))))
  refine wpAny_bind (PyProof.Rows.slicePart_none ?_)
  show wpAny _ _ (if ((1 : Int) == 0) = true then _ else _) _ _ s
  rw [if_neg (by decide)]
  refine wpAny_bind (slicePart_ok pl (wpAny_bind (slicePart_ok pu (wpAny_bind (wpAny_pure ?_)))))
  show wpAny _ _ (match Builtin.Slice.sliceAdjust lo hi 1 (n : Int) with | (lo, hi) => pure (lo, (1 : Int), Builtin.Slice.slicePlaces lo hi 1)) _ _ s
  have e : Builtin.Slice.sliceAdjust lo hi 1 (n : Int) = ((lowOf n lo : Int), (highOf n hi : Int)) := by rw [adjust_ok]; rfl
  rw [e]
  show wpAny _ _ (pure ((lowOf n lo : Int), (1 : Int), Builtin.Slice.slicePlaces (lowOf n lo : Int) (highOf n hi : Int) 1)) _ _ s
  rw [places_ok]
  exact wpAny_pure h

theorem tup_slice {t sl : Addr} {o : Obj} {items : Array Value} {n : Nat} {ds : List D} {vl vu : Value} {lo hi : Option Int} (hx : ¬ X t) (ho : s.heap.get? t = some o) (hc : o.cls = .type "tuple") (hd : o.data = .seq items n)
    (hr : Reps X s.heap items.toList ds) (hl : ds.length < LIM) (x : XOk W X s.heap)
    (hs : s.heap.IsSliceOf sl vl vu .none) (pl : IsPart vl lo) (pu : IsPart vu hi)
    (h : ∀ u h' tk, (∀ b o, s.heap.get? b = some o → h'.get? b = some o) → Rep X h' u (.tup (cut ds lo hi)) → Q u { s with heap := h', toks := tk }) : wpAny (model W.prog W.w) A (getItem (.ref t) (.ref sl)) Q E s := by
  have ht : IsTup s.heap t items := ⟨o, ho, hc, n, hd⟩
  have hsz : items.size = ds.length := by simpa using hr.length
  obtain ⟨os, hos, hcs, hds⟩ := id hs
  have hTs : s.TypeIs (.ref sl) "slice" := ⟨os, hos, hcs⟩
  unfold getItem
  try with_reducible refine wpAny_holding ?_
  first | refine wpAny_bind (wpAny_pure ?_) | skip
  refine wpAny_bind (wpAny_sequenceKey ht.typeIs (by decide) ?_)
  refine wpAny_bind (wpAny_callSpecial?_slot (name := Str.ofString "__getitem__") ht.typeIs PyProof.Rows.slot_tuple_getitem
    (wpAny_call_entry PyProof.Rows.slot_tuple_getitem ht.typeIs PyProof.Rows.entry_tuple_getitem ?_ (PyProof.Rows.args_tuple_getitem _ _)))
  show wpAny _ _ (Builtin.Tuple.tupleItemsOf (.ref t) >>= _) _ _ s
  refine wpAny_bind (tupleItemsOf_ ht ?_)
  refine wpAny_bind (wpAny_typeOf hTs ?_)
  rw [if_pos (by decide)]
  refine wpAny_bind (applied_ok hs pl pu ?_)
  dsimp only
  rw [hsz]
  generalize hL : lowOf ds.length lo = l
  generalize hH : highOf ds.length hi = hh
  have hhle : hh ≤ ds.length := by rw [← hH]; exact high_le _ _
  have hcut : cut ds lo hi = (ds.take hh).drop l := by rw [cut_eq, hL, hH]
  have hnew : Q (.ref s.heap.objs.size) { s with heap := s.heap.push { cls := .type "tuple", data := .seq ((items.toList.take hh).drop l).toArray } } := by
    refine h _ _ s.toks (push_keeps _ _) (Rep.newTup x.new (Heap.get?_push_size _ rfl) (push_keeps _ _) ?_ (Nat.lt_of_le_of_lt (cut_len _ _ _) hl))
    rw [hcut]
    exact (hr.take hh).drop l
  have hok : sizeOk (.seq ((items.toList.take hh).drop l).toArray) := by
    show ((items.toList.take hh).drop l).toArray.size ≤ sizeLine
    rw [List.size_toArray, List.length_drop, List.length_take, Array.length_toList]
    exact Nat.le_trans (by omega) (lim_size (n := ds.length) hl)
  have hpick := pick_ok items l hh
  by_cases hw : ((l : Int) == 0 && (1 : Int) == 1 && (hh - l) == ds.length) = true
  · rw [if_pos hw]
    simp only [Bool.and_eq_true, beq_iff_eq] at hw
    have hl0 : l = 0 := by omega
    subst hl0
    have hh0 : hh = ds.length := by omega
    refine wpAny_bind (m := Builtin.Tuple.tupleIsExact (.ref t)) (wpAny_bind (wpAny_typeOf ht.typeIs (wpAny_pure ?_)))
    rw [if_pos (by decide)]
    refine wpAny_bind (wpAny_rule (wpAny_pure ⟨_, rfl, wpAny_pure (h _ s.heap s.toks (fun _ _ e => e) (.tup hx ho hc hd ?_ (Nat.lt_of_le_of_lt (cut_len _ _ _) hl)))⟩))
    rw [hcut, List.drop_zero, hh0, List.take_length]
    exact hr
  · rw [if_neg hw, hpick]
    first
      | exact wpAny_bind (m := Builtin.Tuple.tupleExact _) (wpAny_newObj_type (wpAny_pure ⟨_, rfl, wpAny_pure hnew⟩) hok)
      | exact wpAny_bind (m := Builtin.Tuple.tupleExact _) (wpAny_newObj_type (wpAny_bind (wpAny_pure (wpAny_pure ⟨_, rfl, wpAny_pure hnew⟩))) hok)
      | exact wpAny_bind (wpAny_bind (m := Builtin.Tuple.tupleExact _) (wpAny_newObj_type (wpAny_pure (wpAny_pure ⟨_, rfl, wpAny_pure hnew⟩)) hok))
      | exact wpAny_bind (wpAny_bind (m := Builtin.Tuple.tupleExact _) (wpAny_newObj_type (wpAny_pure ⟨_, rfl, wpAny_pure hnew⟩) hok))

theorem clamp_lo (n : Nat) (lo : Option Int) : kms_lo lo n = lowOf n lo := by
  unfold kms_lo lowOf clampTo
  cases lo with
  | none => rfl
  | some i => dsimp only; split <;> omega
theorem clamp_hi (n : Nat) (hi : Option Int) : kms_hi hi n = highOf n hi := by
  unfold kms_hi highOf clampTo
  cases hi with
  | none => rfl
  | some i => dsimp only; split <;> omega

theorem list_slice {t sl : Addr} {o : Obj} {items : Array Value} {n : Nat} {ds : List D} {vl vu : Value} {lo hi : Option Int} (ho : s.heap.get? t = some o) (hc : o.cls = .type "list") (hd : o.data = .seq items n)
    (hr : Reps X s.heap items.toList ds) (hl : ds.length < LIM) (x : XOk W X s.heap)
    (hs : s.heap.IsSliceOf sl vl vu .none) (pl : IsPart vl lo) (pu : IsPart vu hi)
    (h : ∀ u h' tk, (∀ b o, s.heap.get? b = some o → h'.get? b = some o) → Rep X h' u (.list (cut ds lo hi)) → Q u { s with heap := h', toks := tk }) : wpAny (model W.prog W.w) A (getItem (.ref t) (.ref sl)) Q E s := by
  have hsz : items.size = ds.length := by simpa using hr.length
  refine wpAny_getItem_list_slice (vs := .none) (st := none) ⟨o, ho, hc, n, hd⟩ hs pl pu .none (by simp) ?_ (by rw [hsz]; exact lim_size hl)
  refine h _ _ s.toks (push_keeps _ _) (Rep.newList (n := 0) x.new (Heap.get?_push_size _ rfl) (push_keeps _ _) ?_ (Nat.lt_of_le_of_lt (cut_len _ _ _) hl))
  rw [kms_pick_eq, cut_eq]
  unfold kms_pick
  rw [Array.length_toList, hsz, clamp_lo, clamp_hi]
  show Reps X s.heap ((items.toList.drop (lowOf ds.length lo)).take (highOf ds.length hi - lowOf ds.length lo)) _
  rw [List.drop_take]
  exact (hr.drop _).take _
end
end Mine

end

section
open PySem PySem.W PySem.Calls PyProof.Rows PySem.Spec
namespace Mine

structure EnvOK (W : Wd) (nm : Names) (env : Env) : Prop where
  kind : env.scope.kind = .function
  glob : env.globals = mainGlobals
  blt : env.builtins = builtinsNs
  loc : ∀ x, nm.lookup x = some .local → env.kindOf x = some .local
  gl : ∀ x, nm.lookup x = some .globalImplicit → env.kindOf x = some .globalImplicit
  celS : ∀ x, nm.lookup x = some .cell → env.kindOf x = some .cell
  cel : ∀ x, nm.lookup x = some .free → env.kindOf x = some .cell ∨ env.kindOf x = some .free
  noD : ∀ x k, nm.lookup x = some k → (x == ("__debug__" : Str)) = false
  noC : ∀ x k, nm.lookup x = some k → (x == ("__classdict__" : Str)) = false
  inj : ∀ x y c, env.cells.lookup x = some c → env.cells.lookup y = some c → x = y
  apart : ∀ x c, env.cells.lookup x = some c → c ≠ env.locals
  fdL : env.locals ≠ W.fd
  fdC : ∀ x c, env.cells.lookup x = some c → c ≠ W.fd

noncomputable def Own (env : Env) (b : Addr) : Prop := b = env.locals ∨ ∃ x, env.cells.lookup x = some b

/-- what a frame's own stores turn -/
noncomputable def Mod (nm : Names) (env : Env) (b : Addr) : Prop := b = env.locals ∨ ∃ x, nm.lookup x = some .cell ∧ env.cells.lookup x = some b
theorem Mod.own {nm : Names} {env : Env} {b : Addr} (h : Mod nm env b) : Own env b := h.imp id fun ⟨x, _, e⟩ => ⟨x, e⟩

noncomputable def celled (nm : Names) (x : Str) : Prop := nm.lookup x = some .cell ∨ nm.lookup x = some .free

structure Loc (W : Wd) (X : Addr → Prop) (nm : Names) (env : Env) (h : Heap) (ρ : Rho) : Prop where
  ns : ∃ m, h.Ns env.locals m ∧ ∀ x v, ρ.lookup x = some v → nm.lookup x = some .local → ∃ u, m x = some u ∧ RepV W X h u v
  cell : ∀ x, celled nm x → ∃ c w, env.cells.lookup x = some c ∧ h.IsCell c w ∧ ∀ v, ρ.lookup x = some v → ∃ u, w = some u ∧ RepV W X h u v
  own : ∀ b, Own env b → X b

section
variable {W : Wd} {X Y : Addr → Prop} {nm : Names} {env : Env} {h h' : Heap} {ρ : Rho} {σ σ' : Nat}

/-- all that a state of a frame is -/
structure St (W : Wd) (X : Addr → Prop) (nm : Names) (env : Env) (ρ : Rho) (σ : Nat) (h : Heap) : Prop where
  x : XOk W X h
  i : Inv W σ h
  l : Loc W X nm env h ρ

theorem Loc.map (hk : ∀ b o, ¬ X b → h.get? b = some o → ¬ Y b ∧ h'.get? b = some o) (hown : ∀ b o, Own env b → h.get? b = some o → h'.get? b = some o) (hY : ∀ b, Own env b → Y b) (L : Loc W X nm env h ρ) : Loc W Y nm env h' ρ where
  ns := by
    obtain ⟨m, hn, hm⟩ := L.ns
    exact ⟨m, hn.at' fun o e => hown _ o (.inl rfl) e, fun x v hv hx => let ⟨u, e, r⟩ := hm x v hv hx; ⟨u, e, r.map hk⟩⟩
  cell := fun x hx => by
    obtain ⟨c, w, hc, ⟨o, ho, hd⟩, hv⟩ := L.cell x hx
    exact ⟨c, w, hc, ⟨o, hown _ o (.inr ⟨x, hc⟩) ho, hd⟩, fun v e => let ⟨u, e', r⟩ := hv v e; ⟨u, e', r.map hk⟩⟩
  own := hY

theorem EnvOK.own_fd (O : EnvOK W nm env) {b : Addr} (hb : Own env b) : b ≠ W.fd := by
  rcases hb with rfl | ⟨x, hx⟩
  · exact O.fdL
  · exact O.fdC x b hx

theorem St.gr (O : EnvOK W nm env) (S : St W X nm env ρ σ h) (g : Gr W h h') (i : Inv W σ' h') : St W X nm env ρ σ' h' :=
  ⟨S.x.gr g i, i, S.l.map (fun b o hx e => ⟨hx, g b o (fun q => hx (q ▸ S.x.fd)) e⟩) (fun b o hb e => g b o (O.own_fd hb) e) S.l.own⟩
theorem St.keeps (O : EnvOK W nm env) (Q : WdOk W) (S : St W X nm env ρ σ h) (k : ∀ b o, h.get? b = some o → h'.get? b = some o) : St W X nm env ρ σ h' :=
  S.gr O (Gr.of_keeps k) (S.i.keeps Q k)
theorem Loc.wide {ρ' : Rho} (L : Loc W X nm env h ρ) (hρ : ∀ x v, ρ'.lookup x = some v → ρ.lookup x = some v) : Loc W X nm env h ρ' :=
  ⟨let ⟨m, hn, hm⟩ := L.ns; ⟨m, hn, fun x v e q => hm x v (hρ x v e) q⟩, fun x hx => let ⟨c, w, a, b, d⟩ := L.cell x hx; ⟨c, w, a, b, fun v e => d v (hρ x v e)⟩, L.own⟩

variable {A : Around} {E : Value → Shared → Prop} {s : Shared}

theorem load_ok {x : Str} {pos : Pos} {v : V} {Q : Value → Shared → Prop} (O : EnvOK W nm env) (S : St W X nm env ρ σ s.heap) (hk : nm.lookup x = some .local ∨ celled nm x) (hv : ρ.lookup x = some v)
    (h : ∀ u, RepV W X s.heap u v → Q u s) : wpAny (model W.prog W.w) A (eval (.Name x pos) env) Q E s := by
  have hd : (x == ("__debug__" : Str)) = false := by rcases hk with q | q | q <;> exact O.noD x _ q
  refine wpAny_Name ?_ hd
  rcases hk with hk | hk
  · obtain ⟨m, hn, hm⟩ := S.l.ns
    obtain ⟨u, e, r⟩ := hm x v hv hk
    exact wpAny_loadName_local O.kind (O.loc x hk) hn e (h u r)
  · obtain ⟨c, w, hc, hcell, hw⟩ := S.l.cell x hk
    obtain ⟨u, rfl, r⟩ := hw v hv
    have hcd : (x == ("__classdict__" : Str)) = false := by rcases hk with q | q <;> exact O.noC x _ q
    rcases hk with q | q
    · exact wpAny_loadName_cell O.kind (O.celS x q) hc hcell (h u r)
    · rcases O.cel x q with q' | q'
      · exact wpAny_loadName_cell O.kind q' hc hcell (h u r)
      · exact wpAny_loadName_free O.kind q' hc hcell (h u r) hcd

theorem lookup_set {x y : Str} {v : V} : (setName ρ x v).lookup y = if y = x then some v else ρ.lookup y := by
  unfold setName
  by_cases q : y = x
  · subst q; simp [List.lookup]
  · have e : (y == x) = false := beq_eq_false_iff_ne.mpr q
    rw [if_neg q, List.lookup, e]

theorem store_ok {x : Str} {u : Value} {v : V} {Q : Unit → Shared → Prop} (O : EnvOK W nm env) (Wo : WdOk W) (S : St W X nm env ρ σ s.heap) (hk : nm.lookup x = some .local ∨ nm.lookup x = some .cell) (r : RepV W X s.heap u v)
    (h : ∀ h' tk, (∀ b o, ¬ Mod nm env b → s.heap.get? b = some o → h'.get? b = some o) → St W X nm env (setName ρ x v) σ h' → Q () { s with heap := h', toks := tk }) : wpAny (model W.prog W.w) A (storeName env x u) Q E s := by
  have fin : ∀ (a : Addr) (h' : Heap), Own env a → Heap.SameBut a s.heap h' → (∃ o, h'.get? a = some o) → Loc W X nm env h' (setName ρ x v) → St W X nm env (setName ρ x v) σ h' := fun a h' ha hs ho L => by
    have kp : Kp W X s.heap h' := fun b o hb e => (hs.2 b (fun q => by
      subst q
      exact hb.elim (fun q => q (S.l.own _ ha)) fun q => O.own_fd ha q)).trans e
    refine ⟨⟨fun b hb => ?_, S.x.base, S.x.fd, S.x.cl⟩, S.i.kp Wo S.x kp, L⟩
    by_cases q : b = a
    · exact q ▸ ho
    · obtain ⟨o, e⟩ := S.x.at_ b hb
      exact ⟨o, (hs.2 b q).trans e⟩
  have keep : ∀ (a : Addr) (h' : Heap), Own env a → Heap.SameBut a s.heap h' → ∀ b o, ¬ X b → s.heap.get? b = some o → ¬ X b ∧ h'.get? b = some o := fun a h' ha hs b o hb e => ⟨hb, (hs.2 b fun q => hb (q ▸ S.l.own _ ha)).trans e⟩
  rcases hk with hk | hk
  · obtain ⟨m, hn, hm⟩ := S.l.ns
    refine wpAny_storeName_local (O.loc x hk) hn (fun h' hn' hs => ?_) (by rw [O.kind]; rfl)
    have hk9 := keep env.locals h' (.inl rfl) hs
    refine h h' _ (fun b o hb e => (hs.2 b fun q => hb (.inl q)).trans e) (fin env.locals h' (.inl rfl) hs (let ⟨o, _, _, ho, _⟩ := hn'; ⟨o, ho⟩) ⟨⟨_, hn', fun y w hy hyk => ?_⟩, fun y hy => ?_, S.l.own⟩)
    · rw [lookup_set] at hy
      by_cases q : y = x
      · subst q
        simp only [if_true] at hy ⊢
        cases hy
        exact ⟨u, rfl, r.map hk9⟩
      · simp only [if_neg q] at hy ⊢
        obtain ⟨u', e, r'⟩ := hm y w hy hyk
        exact ⟨u', e, r'.map hk9⟩
    · obtain ⟨c, w, hc, hcell, hv⟩ := S.l.cell y hy
      refine ⟨c, w, hc, hcell.sameBut hs (O.apart y c hc), fun v' hv' => ?_⟩
      have hne : y ≠ x := by
        rintro rfl
        rcases hy with q | q <;> rw [hk] at q <;> cases q
      rw [lookup_set, if_neg hne] at hv'
      obtain ⟨u', e, r'⟩ := hv v' hv'
      exact ⟨u', e, r'.map hk9⟩
  · obtain ⟨c, w, hc, hcell, hv⟩ := S.l.cell x (.inl hk)
    refine wpAny_storeName_cell O.kind (O.celS x hk) hc hcell fun h' hc' hs => ?_
    have hown : Own env c := .inr ⟨x, hc⟩
    have hk9 := keep c h' hown hs
    refine h h' _ (fun b o hb e => (hs.2 b fun q => hb (q ▸ (.inr ⟨x, hk, hc⟩ : Mod nm env c))).trans e) (fin c h' hown hs (let ⟨o, ho, _⟩ := hc'; ⟨o, ho⟩) ⟨?_, fun y hy => ?_, S.l.own⟩)
    · obtain ⟨m, hn, hm⟩ := S.l.ns
      refine ⟨m, hn.sameBut hs (Ne.symm (O.apart x c hc)), fun y w' hy hyk => ?_⟩
      have hne : y ≠ x := by
        rintro rfl
        rw [hk] at hyk; cases hyk
      rw [lookup_set, if_neg hne] at hy
      obtain ⟨u', e, r'⟩ := hm y w' hy hyk
      exact ⟨u', e, r'.map hk9⟩
    · by_cases q : y = x
      · subst q
        refine ⟨c, some u, hc, hc', fun v' hv' => ?_⟩
        rw [lookup_set, if_pos rfl] at hv'
        cases hv'
        exact ⟨u, rfl, r.map hk9⟩
      · obtain ⟨c2, w2, hc2, hcell2, hv2⟩ := S.l.cell y hy
        have hne : c2 ≠ c := fun e => q (O.inj y x c (e ▸ hc2) hc)
        refine ⟨c2, w2, hc2, hcell2.sameBut hs hne, fun v' hv' => ?_⟩
        rw [lookup_set, if_neg q] at hv'
        obtain ⟨u', e, r'⟩ := hv2 v' hv'
        exact ⟨u', e, r'.map hk9⟩
end
end Mine

end

section
open PySem PySem.W PySem.Calls PyProof.Rows PySem.Spec
namespace Mine

theorem stor_iff {nm : Names} {x : Str} (h : stor nm x = true) : nm.lookup x = some .local ∨ nm.lookup x = some .cell := by
  unfold stor at h
  rcases Bool.or_eq_true_iff.mp h with h | h
  · exact .inl (eq_of_beq h)
  · exact .inr (eq_of_beq h)

/-- what an iterator hands a target -/
noncomputable def ItemAt (X : Addr → Prop) (target : Expr) (h : Heap) (u : Value) (d : D) : Prop :=
  match target with
  | .Tuple .. => ∃ a vals ds, u = .ref a ∧ (IsTup h a vals ∨ h.IsList a vals) ∧ (d = .tup ds ∨ d = .list ds) ∧ Reps X h vals.toList ds
  | _ => Rep X h u d

theorem ItemAt.of {X : Addr → Prop} {target : Expr} {h : Heap} {u : Value} {d : D} (r : Rep X h u d) (ht : ∀ es k p, target = .Tuple es k p → (∃ ds, d = .tup ds) ∨ ∃ ds, d = .list ds) : ItemAt X target h u d := by
  unfold ItemAt
  split
  · rcases ht _ _ _ rfl with ⟨ds, rfl⟩ | ⟨ds, rfl⟩
    · cases r with
      | @tup a o vs n _ hx ho hc hd hr hl => exact ⟨a, vs, ds, rfl, .inl ⟨o, ho, hc, n, hd⟩, .inl rfl, hr⟩
    · cases r with
      | @list a o vs n _ hx ho hc hd hdn hr hl => exact ⟨a, vs, ds, rfl, .inr ⟨o, ho, hc, n, hd⟩, .inr rfl, hr⟩
  · exact r

section
variable {W : Wd} {X : Addr → Prop} {nm : Names} {env : Env} {ρ : Rho} {σ : Nat} {A : Around} {E : Value → Shared → Prop} {s : Shared}

theorem own_trans {nm : Names} {env : Env} {h h' h'' : Heap} (a : ∀ b o, ¬ Mod nm env b → h.get? b = some o → h'.get? b = some o) (c : ∀ b o, ¬ Mod nm env b → h'.get? b = some o → h''.get? b = some o) : ∀ b o, ¬ Mod nm env b → h.get? b = some o → h''.get? b = some o :=
  fun b o q e => c b o q (a b o q e)

theorem bindAll_each (env : Env) : ∀ (es : List Expr) (ds : List D) (ρ ρ' : Rho), bindAll nm es ds ρ = some ρ' → (assignEach es env).length = ds.length ∧ (assignEach es env).findIdx? (·.1) = none := by
  intro es
  induction es with
  | nil =>
    intro ds ρ ρ' h
    exact bindK h fun _ h1 _ => by rw [nil_inv h1]; exact ⟨rfl, rfl⟩
  | cons e es ih =>
    intro ds ρ ρ' h
    refine bindK h fun x h1 h => bindK h fun d h2 h => condS h fun _ h => ?_
    obtain ⟨a, b⟩ := ih d.2 _ ρ' h
    rw [name_inv h1, cons_inv h2]
    have e1 : assignEach (.Name x.1 x.2 :: es) env = (false, assign (.Name x.1 x.2) env) :: assignEach es env := rfl
    rw [e1, List.findIdx?_cons, List.length_cons, List.length_cons, a]
    exact ⟨rfl, by rw [b]; rfl⟩

theorem bindAll_ok (O : EnvOK W nm env) (Wo : WdOk W) : ∀ (es : List Expr) (us : List Value) (ds : List D) (ρ ρ' : Rho) (s : Shared) (Q : Unit → Shared → Prop), bindAll nm es ds ρ = some ρ' → St W X nm env ρ σ s.heap → Reps X s.heap us ds →
    (∀ h' tk, (∀ b o, ¬ Mod nm env b → s.heap.get? b = some o → h'.get? b = some o) → St W X nm env ρ' σ h' → Q () { s with heap := h', toks := tk }) →
    wpAny (model W.prog W.w) A (assignInOrder ((assignEach es env).map (·.2)) us) Q E s := by
  intro es
  induction es with
  | nil =>
    intro us ds ρ ρ' s Q h S r hQ
    refine bindK h fun _ h1 h => ?_
    rw [nil_inv h1] at r
    obtain rfl := Option.some.inj h
    cases r
    exact wpAny_pure (hQ s.heap s.toks (fun _ _ _ e => e) S)
  | cons e es ih =>
    intro us ds ρ ρ' s Q h S r hQ
    refine bindK h fun x h1 h => bindK h fun d h2 h => condS h fun hst h => ?_
    rw [cons_inv h2] at r
    rw [name_inv h1]
    cases r with
    | cons h1 r =>
      have e1 : (assignEach (.Name x.1 x.2 :: es) env).map (·.2) = assign (.Name x.1 x.2) env :: (assignEach es env).map (·.2) := rfl
      rw [e1]
      refine assignInOrder_cons (wpAny_assign_Name (store_ok (v := .d d.1) O Wo S (stor_iff hst) h1 fun h₁ tk₁ hk₁ S₁ => ?_))
      refine ih _ d.2 _ ρ' _ Q h S₁ (r.map fun b o hb e => ⟨hb, hk₁ b o (fun q => hb (S.l.own b q.own)) e⟩) fun h' tk hk' S' => ?_
      exact hQ h' tk (own_trans hk₁ hk') S'

/-- a value stored into a target -/
theorem assign_ok (O : EnvOK W nm env) (Wo : WdOk W) (hh : A.handled = none) {target : Expr} {d : D} {u : Value} {ρ' : Rho} {Q : Unit → Shared → Prop} (hb : bindT nm target d ρ = some ρ') (S : St W X nm env ρ σ s.heap) (r : ItemAt X target s.heap u d)
    (h : ∀ h' tk, (∀ b o, ¬ Mod nm env b → s.heap.get? b = some o → h'.get? b = some o) → St W X nm env ρ' σ h' → Q () { s with heap := h', toks := tk }) :
    wpAny (model W.prog W.w) A (assign target env u) Q E s := by
  refine ocK hb (fun _ hb => bindK hb fun x h1 hb => condS hb fun hst hb => ?_) fun tt ht hb => bindK hb fun ds1 h1 hb' => ?_
  · obtain rfl := Option.some.inj hb
    rw [name_inv h1] at r ⊢
    exact wpAny_assign_Name (store_ok (v := .d d) O Wo S (stor_iff hst) r h)
  · rw [tuple_inv ht] at r ⊢
    obtain ⟨es, k, p⟩ := tt
    obtain ⟨a, vals, ds, rfl, hseq, hd, hr⟩ := r
    obtain rfl : ds = ds1 := by
      rcases hd with rfl | rfl
      · exact Option.some.inj h1
      · exact Option.some.inj h1
    obtain ⟨e1, e2⟩ := bindAll_each env es ds ρ ρ' hb'
    have hlen : (assignEach es env).length = vals.size := by rw [e1, ← hr.length, Array.length_toList]
    have fin : ∀ h', Heap.ExtBut s.heap.objs.size s.heap h' → wpAny (model W.prog W.w) A (assignInOrder ((assignEach es env).map (·.2)) vals.toList) Q E { s with heap := h' } := fun h' he => by
      have k9 : ∀ b o, s.heap.get? b = some o → h'.get? b = some o := fun b o e => he b o (Nat.ne_of_lt (Heap.lt_size e)) e
      exact bindAll_ok O Wo es _ ds ρ ρ' _ Q hb' (S.keeps O Wo k9) (hr.map fun b o hx e => ⟨hx, k9 b o e⟩) fun h'' tk hk S' => h h'' tk (fun b o q e => hk b o q (k9 b o e)) S'
    rcases hseq with ht | hl
    · exact assign_Tuple_tuple hh ht hlen e2 fin
    · rw [assign_Tuple]
      refine wpAny_bind (wpAny_standAt ?_)
      unfold unpack
      rw [hlen, e2]
      exact wpAny_bind (wpAny_holding (kun_itemsOf hh hl fin))
end
end Mine

end

section
open PySem PySem.W PySem.Calls PyProof.Rows PySem.Spec
namespace Mine

/-- an iterator I over data, for a target; N: its own objects, X: theirs and all that no datum stands at -/
structure Itr (W : Wd) (A : Around) (X : Addr → Prop) (target : Expr) (I : Addr) (N : Addr → Prop) (ds : List D) (Stt : Nat → Heap → Prop) (Md : Nat → Value → Heap → Prop) : Prop where
  sub : ∀ b, N b → X b
  live : ∀ i h, Stt i h → ∀ b, N b → ∃ o, h.get? b = some o
  frame : ∀ i h h', Stt i h → (∀ b o, N b ∨ ¬ X b → h.get? b = some o → h'.get? b = some o) → Stt i h'
  item : ∀ i (s : Shared) (Q : Option Value → Shared → Prop) (E : Value → Shared → Prop), i < ds.length → Stt i s.heap →
    (∀ v h' tk, Md i v h' → (∀ b o, ¬ N b → s.heap.get? b = some o → h'.get? b = some o) → Q (some v) { s with heap := h', toks := tk }) → wpAny (model W.prog W.w) A (pyNext (.ref I)) Q E s
  go : ∀ i v d (s : Shared) (Q : Unit → Shared → Prop) (E : Value → Shared → Prop), ds[i]? = some d → (∀ es k p, target = .Tuple es k p → (∃ l, d = .tup l) ∨ ∃ l, d = .list l) → Md i v s.heap →
    (∀ h', Stt (i + 1) h' → ItemAt X target h' v d → (∀ b o, ¬ N b → s.heap.get? b = some o → h'.get? b = some o) → Q () { s with heap := h' }) → wpAny (model W.prog W.w) A (letOwnedTupleGo target (.ref I) v) Q E s
  done : ∀ (s : Shared) (Q : Option Value → Shared → Prop) (E : Value → Shared → Prop), Stt ds.length s.heap →
    (∀ h' tk, (∀ b o, ¬ N b → s.heap.get? b = some o → h'.get? b = some o) → Q none { s with heap := h', toks := tk }) → wpAny (model W.prog W.w) A (pyNext (.ref I)) Q E s
  self : ∀ i (s : Shared) (Q : Value → Shared → Prop) (E : Value → Shared → Prop), Stt i s.heap → Q (.ref I) s → wpAny (model W.prog W.w) A (pyIter (.ref I)) Q E s

theorem owned_pair {M : Model} {A : Around} {E : Value → Shared → Prop} {s : Shared} {target : Expr} {I : Addr} {v : Value} {o : Obj} {n : String} {Q : Unit → Shared → Prop} (ho : s.heap.get? I = some o) (hc : o.cls = .type n)
    (hn : (["enumerate", "zip", "dict_itemiterator", "dict_reverseitemiterator", "odict_iterator", "itertools.zip_longest", "itertools.pairwise"] : List String).contains n = false) (h : Q () s)
    (he : letOwnedTupleGo target (.ref I) v = letOwnedTupleGo (.Tuple [] 0 default) (.ref I) v) : wpAny M A (letOwnedTupleGo target (.ref I) v) Q E s := by
  rw [he]
  obtain ⟨cls, dd, data, sl⟩ := o
  obtain rfl : cls = .type n := hc
  induction v using Value.casesOn
  case ref a =>
    refine wpAny_bind (wpAny_load ho ?_)
    induction data using Data.casesOn
    case fields vs =>
      show wpAny _ _ (if (_ && _) = true then _ else _) _ _ _
      rw [hn, Bool.false_and, if_neg Bool.false_ne_true]
      exact wpAny_pure h
    all_goals exact wpAny_pure h
  all_goals exact wpAny_pure h
theorem owned_go {M : Model} {A : Around} {E : Value → Shared → Prop} {s : Shared} {target : Expr} {I : Addr} {v : Value} {o : Obj} {n : String} {Q : Unit → Shared → Prop} (ho : s.heap.get? I = some o) (hc : o.cls = .type n)
    (hn : (["enumerate", "zip", "dict_itemiterator", "dict_reverseitemiterator", "odict_iterator", "itertools.zip_longest", "itertools.pairwise"] : List String).contains n = false) (h : Q () s) : wpAny M A (letOwnedTupleGo target (.ref I) v) Q E s := by
  have go := fun (t : Expr) => owned_pair (M := M) (A := A) (E := E) (target := t) (v := v) ho hc hn h
  induction target using Expr.casesOn
  case Tuple => exact go _ rfl
  case List => exact go _ rfl
  all_goals exact wpAny_pure h

section
variable {W : Wd} {A : Around} {X : Addr → Prop}

/-- the kit's walks, for items that are data -/
theorem Itr.of_walks {target : Expr} {I : Addr} {fp wr : List Addr} {P : Nat → Value → Prop} {S : Nat → Heap → Prop} {ds : List D} {cn : String} (w : Walks W.prog W.w A I fp wr ds.length P S) (hI : ∀ i h, S i h → ∃ o, h.get? I = some o ∧ o.cls = .type cn)
    (hwr : wr = [I]) (hX : X I) (hfp : ∀ b ∈ fp, b = I ∨ ¬ X b)
    (hcn : (["enumerate", "zip", "dict_itemiterator", "dict_reverseitemiterator", "odict_iterator", "itertools.zip_longest", "itertools.pairwise"] : List String).contains cn = false) :
    Itr W A X target I (fun b => b = I) ds (fun i h => S i h ∧ ∀ j v d, P j v → ds[j]? = some d → Rep X h v d) (fun i v h => P i v ∧ S (i + 1) h ∧ ∀ j v d, P j v → ds[j]? = some d → Rep X h v d) where
  sub := fun b hb => by rw [hb]; exact hX
  live := fun i h st b hb => by
    subst hb
    obtain ⟨o, ho, _⟩ := hI i h st.1
    exact ⟨o, ho⟩
  frame := fun i h h' st hk => ⟨w.frame i h h' st.1 fun b hb o e => hk b o (hfp b hb) e, fun j v d hp hd => (st.2 j v d hp hd).map fun b o hx e => ⟨hx, hk b o (.inr hx) e⟩⟩
  item := fun i s Q E hi st hQ => w.item i s Q E hi st.1 fun v h' tk hp st' hk => by
    have k9 : ∀ b o, ¬ b = I → s.heap.get? b = some o → h'.get? b = some o := fun b o q e => hk b o (by rw [hwr]; simpa using q) e
    exact hQ v h' tk ⟨hp, st', fun j v d hp hd => (st.2 j v d hp hd).map fun b o hx e => ⟨hx, k9 b o (fun q => hx (q ▸ hX)) e⟩⟩ k9
  go := fun i v d s Q E hd ht hm hQ => by
    obtain ⟨o, ho, hc⟩ := hI _ _ hm.2.1
    exact owned_go ho hc hcn (hQ s.heap ⟨hm.2.1, hm.2.2⟩ (ItemAt.of (hm.2.2 i v d hm.1 hd) ht) fun _ _ _ e => e)
  done := fun s Q E st hQ => w.done s Q E st.1 fun h' tk hk => hQ h' tk fun b o q e => hk b o (by rw [hwr]; simpa using q) e
  self := fun i s Q E st hQ => w.self i s Q E st.1 hQ

theorem itr_list {target : Expr} {I ax : Addr} {items : Array Value} {ds : List D} (hh : A.handled = none) (hX : X I) (hax : ¬ X ax) (hl : items.size = ds.length) :
    ∃ Md, Itr W A X target I (fun b => b = I) ds (fun i h => (h.IsListIter I ax i ∧ h.IsList ax items) ∧ ∀ (j : Nat) v d, items[j]? = some v → ds[j]? = some d → Rep X h v d) Md := by
  have w := Walks.list (prog := W.prog) (w := W.w) hh I ax (fun q => hax (q ▸ hX)) items
  rw [hl] at w
  exact ⟨_, Itr.of_walks (cn := "list_iterator") w (fun i h st => let ⟨o, ho, hc, _⟩ := st.1; ⟨o, ho, hc⟩) rfl hX (fun b hb => by
    rcases List.mem_cons.mp hb with rfl | hb
    · exact .inl rfl
    · rw [List.mem_singleton.mp hb]; exact .inr hax) (by decide)⟩

theorem itr_tup {target : Expr} {I ax : Addr} {items : Array Value} {ds : List D} (hh : A.handled = none) (hX : X I) (hax : ¬ X ax) (hl : items.size = ds.length) :
    ∃ Md, Itr W A X target I (fun b => b = I) ds (fun i h => (h.IsTupleIter I ax i ∧ h.IsTuple ax items) ∧ ∀ (j : Nat) v d, items[j]? = some v → ds[j]? = some d → Rep X h v d) Md := by
  have w := Walks.tuple (prog := W.prog) (w := W.w) hh I ax (fun q => hax (q ▸ hX)) items
  rw [hl] at w
  exact ⟨_, Itr.of_walks (cn := "tuple_iterator") w (fun i h st => let ⟨o, ho, hc, _⟩ := st.1; ⟨o, ho, hc⟩) rfl hX (fun b hb => by
    rcases List.mem_cons.mp hb with rfl | hb
    · exact .inl rfl
    · rw [List.mem_singleton.mp hb]; exact .inr hax) (by decide)⟩

theorem itr_range {target : Expr} {I : Addr} {n : Nat} (hh : A.handled = none) (hX : X I) :
    ∃ Md, Itr W A X target I (fun b => b = I) ((List.range n).map fun (i : Nat) => D.int i) (fun i h => IsRangeIter h I (0 + (i : Nat) * 1) ((n : Int) - (i : Nat)) 1 ∧ ∀ (j : Nat) v d, (∃ t, v = .int (0 + (j : Int) * 1) t) → ((List.range n).map fun (i : Nat) => D.int i)[j]? = some d → Rep X h v d) Md := by
  have w := Walks.range (prog := W.prog) (w := W.w) hh I 0 1 n
  have hl : n = ((List.range n).map fun (i : Nat) => D.int i).length := by simp
  have w' : Walks W.prog W.w A I [I] [I] ((List.range n).map fun (i : Nat) => D.int i).length (fun i v => ∃ t, v = .int (0 + (i : Int) * 1) t) (fun i h => IsRangeIter h I (0 + (i : Nat) * 1) ((n : Int) - (i : Nat)) 1) := by
    rw [← hl]; exact w
  exact ⟨_, Itr.of_walks (cn := "range_iterator") w' (fun i h st => ⟨_, st, rfl⟩) rfl hX (fun b hb => .inl (List.mem_singleton.mp hb)) (by decide)⟩
theorem range_rep {n : Nat} {h : Heap} : ∀ (j : Nat) v d, (∃ t, v = Value.int (0 + (j : Int) * 1) t) → ((List.range n).map fun (i : Nat) => D.int i)[j]? = some d → Rep X h v d := by
  rintro j v d ⟨t, rfl⟩ hd
  rw [List.getElem?_map] at hd
  obtain ⟨k, hk, rfl⟩ := Option.map_eq_some_iff.mp hd
  have hj : k = j := by
    have hlt := (List.getElem?_eq_some_iff.mp hk).1
    rw [List.getElem?_range (by simpa using hlt)] at hk
    exact (Option.some.inj hk).symm
  subst hj
  rw [Int.zero_add, Int.mul_one]
  exact .int _ _
end

/-! enumerate -/
section
variable {prog : Program} {w : World} {A : Around} {E : Value → Shared → Prop} {s : Shared}
theorem nextOf_tuple_item {it t : Addr} {i : Nat} {items : Array Value} {x : Value} {Q : Value → Shared → Prop} (hit : s.heap.IsTupleIter it t i)
    (ht : s.heap.IsTuple t items) (hx : items[i]? = some x)
    (hQ : ∀ h', h'.IsTupleIter it t (i + 1) → Heap.SameBut it s.heap h' → Q x { s with heap := h' }) :
    wpAny (model prog w) A (Builtin.SmallTypes.nextOf (.ref it)) Q E s := by
  obtain ⟨o, ho, hc, hd⟩ := id hit
  obtain ⟨ol, hol, _, nl, hdl⟩ := ht
  unfold Builtin.SmallTypes.nextOf
  refine wpAny_bind (wpAny_callSpecial?_slot (name := Str.ofString "__next__") hit.typeIs PySem.F.slot_tuple_iterator_next
    (wpAny_call_entry PySem.F.slot_tuple_iterator_next hit.typeIs PySem.F.entry_tuple_iterator_next ?_ (PySem.F.args_tuple_iterator_next_1 _)))
  show wpAny _ _ (field (.ref it) 0 >>= _) _ _ s
  refine wpAny_bind (wpAny_field ho hd (x := .ref t) rfl ?_)
  show wpAny _ _ (if (Value.ref t == Value.none) = true then _ else _) _ _ s
  rw [if_neg (show ¬ ((Value.ref t == Value.none) = true) from Bool.false_ne_true)]
  show wpAny _ _ (field (.ref it) 1 >>= _) _ _ s
  refine wpAny_bind (wpAny_field ho hd (x := .int i 0) rfl ?_)
  show wpAny _ _ (seqItems? (.ref t) >>= _) _ _ s
  refine wpAny_bind (wpAny_seqItems hol hdl ?_)
  simp only [Int.toNat_natCast, hx]
  refine wpAny_bind (wpAny_setField ho hd (by simp) (wpAny_pure ⟨x, rfl, wpAny_pure (hQ _ ?_ (Heap.SameBut.update ..))⟩))
  exact ⟨_, Heap.get?_update_self _ ho (Obj.isFreed_of_fields (Obj.data_mapFields hd _)), (Obj.cls_mapFields ..).trans hc, by
    rw [Obj.data_mapFields hd]; simp [rawInt]⟩

theorem nextOf_tuple_end {it t : Addr} {i : Nat} {items : Array Value} {Q : Value → Shared → Prop} (hh : A.handled = none)
    (hit : s.heap.IsTupleIter it t i) (ht : s.heap.IsTuple t items) (hx : items[i]? = none)
    (hE : ∀ h' e, Heap.ExtBut it s.heap h' → (∃ o, h'.get? e = some o ∧ o.cls = .type "StopIteration") → E (.ref e) { s with heap := h' }) : wpAny (model prog w) A (Builtin.SmallTypes.nextOf (.ref it)) Q E s := by
  obtain ⟨o, ho, hc, hd⟩ := id hit
  obtain ⟨ol, hol, _, nl, hdl⟩ := ht
  unfold Builtin.SmallTypes.nextOf
  refine wpAny_bind (wpAny_callSpecial?_slot (name := Str.ofString "__next__") hit.typeIs PySem.F.slot_tuple_iterator_next
    (wpAny_call_entry PySem.F.slot_tuple_iterator_next hit.typeIs PySem.F.entry_tuple_iterator_next ?_ (PySem.F.args_tuple_iterator_next_1 _)))
  show wpAny _ _ (field (.ref it) 0 >>= _) _ _ s
  refine wpAny_bind (wpAny_field ho hd (x := .ref t) rfl ?_)
  show wpAny _ _ (if (Value.ref t == Value.none) = true then _ else _) _ _ s
  rw [if_neg (show ¬ ((Value.ref t == Value.none) = true) from Bool.false_ne_true)]
  show wpAny _ _ (field (.ref it) 1 >>= _) _ _ s
  refine wpAny_bind (wpAny_field ho hd (x := .int i 0) rfl ?_)
  show wpAny _ _ (seqItems? (.ref t) >>= _) _ _ s
  refine wpAny_bind (wpAny_seqItems hol hdl ?_)
  simp only [Int.toNat_natCast, hx]
  refine wpAny_bind (wpAny_rule (wpAny_bind (wpAny_setField ho hd (by simp) ?_)))
  show wpAny _ _ (newExc (.type "StopIteration") [] >>= _) _ _ _
  refine wpAny_bind ?_
  simp only [newExc, newTuple]
  refine wpAny_bind (wpAny_newObj_type ?_ (by size_fits))
  refine wpAny_bind (m := firstArgMember _ _) (wpAny_of_eq (a := Value.none) (by first | rfl | (simp only [firstArgMember]; rfl)) ?_)
  refine wpAny_newObj_type ?_ (by size_fits)
  simp only [raiseNew]
  refine wpAny_bind (wpAny_handled ?_)
  first | rw [show A.in1.handled = none from hh] | rw [hh]
  refine wpAny_bind (wpAny_pure (wpAny_throw ?_))
  exact hE _ _ (((Heap.SameBut.update ..).extBut.push _).push _) ⟨_, Heap.get?_push_size _ rfl, rfl⟩
end
theorem draws_tuple {prog : Program} {w : World} {A : Around} (hh : A.handled = none) (it t : Addr) (hne : t ≠ it) (items : Array Value) :
    Draws prog w A it [it, t] items.size (fun i v => items[i]? = some v) (fun i h => h.IsTupleIter it t i ∧ h.IsTuple t items) where
  live := fun _ _ st => let ⟨o, ho, _⟩ := st.1; ⟨o, ho⟩
  frame := fun _ _ _ st hk => ⟨st.1.at fun o e => hk it (by simp) o e, st.2.at fun o e => hk t (by simp) o e⟩
  item := fun i s Q E hi st hQ => by
    refine nextOf_tuple_item st.1 st.2 (x := items[i]) (by simp [hi]) fun h' hit' hs' => ?_
    exact hQ _ h' s.toks (by simp [hi]) ⟨hit', st.2.extBut hs'.extBut hne⟩ hs'
  done := fun s Q E st hE => nextOf_tuple_end hh st.1 st.2 (by simp) hE

theorem meets_enumerate_newT (l : Addr) (items : Array Value) (n : Nat) (dct : Option Addr) (sl : Array (Option Value)) :
    Meets (Builtin.«enumerate.__new__» ⟨[.type "enumerate", .ref l], []⟩) (fun _ R s => s.heap.get? l = some { cls := .type "tuple", dict := dct, data := .seq items n, slots := sl } ∧
      R (.ok (.ret (.ref (s.heap.push { cls := .type "tuple_iterator", data := .fields #[.ref l, .int 0 0] }).objs.size)))
        { s with heap := (s.heap.push { cls := .type "tuple_iterator", data := .fields #[.ref l, .int 0 0] }).push { cls := .type "enumerate", data := .fields #[.none, .bool false, .ref s.heap.objs.size, rawInt 0, .none, .none] } }) :=
  .of_wp fun prog w A R s h => by
    obtain ⟨hp, g, d, tk, os⟩ := s; obtain ⟨hl, h⟩ := h
    have hsub := sub_enumerate
    have hL : Heap.IsTuple (Shared.heap ⟨hp, g, d, tk, os⟩) l items := ⟨_, hl, rfl, n, rfl⟩
    wp_walk using AutoSeq1.wpAny_loadPart' hl
    refine wpAny_stack_any fun st => wpAny_pure ?_
    generalize Builtin.SmallTypes.calledThroughType.match_1 _ _ _ _ = called
    cases called
    · wp_walk using AutoSeq1.wpAny_loadPart' hl, wpAny_pyIter_tuple hL
      exact ⟨_, rfl, h⟩
    · wp_walk using AutoSeq1.wpAny_loadPart' hl, wpAny_pyIter_tuple hL
      exact ⟨_, rfl, h⟩

theorem call_enumerate_tuple {prog : Program} {w : World} {A : Around} {E : Value → Shared → Prop} {s : Shared} {l : Addr} {items : Array Value} {Q : Value → Shared → Prop} (hL : s.heap.IsTuple l items)
    (h : ∀ h', IsEnum h' (s.heap.objs.size + 1) s.heap.objs.size 0 .none → h'.IsTupleIter s.heap.objs.size l 0 → h'.objs.size = s.heap.objs.size + 2 →
      (∀ b o, s.heap.get? b = some o → h'.get? b = some o) → Q (.ref (s.heap.objs.size + 1)) { s with heap := h' }) :
    wpAny (model prog w) A (call (.type "enumerate") [.ref l]) Q E s := by
  obtain ⟨⟨c, dct, dt, sl⟩, hl, hc, n, hd⟩ := hL
  replace hc : c = .type "tuple" := hc
  replace hd : dt = .seq items n := hd
  subst hc hd
  refine callType_new PySem.F.called_enumerate (by decide) (PySem.F.typeCall_enumerate_1 _) (PySem.F.newCall_enumerate_1 _) (fun obj => PySem.F.args_object_init_2 obj _) PySem.F.entry_enumerate_new
    (meets_enumerate_newT l items n dct sl) ⟨hl, ?_⟩
  have hz : (s.heap.push { cls := .type "tuple_iterator", data := .fields #[.ref l, .int 0 0] }).objs.size = s.heap.objs.size + 1 := Heap.size_push ..
  show _ ∧ _
  rw [hz]
  have he : IsEnum ((s.heap.push { cls := .type "tuple_iterator", data := .fields #[.ref l, .int 0 0] }).push
      { cls := .type "enumerate", data := .fields #[.none, .bool false, .ref s.heap.objs.size, rawInt 0, .none, .none] }) (s.heap.objs.size + 1) s.heap.objs.size 0 .none := by
    have := Heap.get?_push_size (s.heap.push { cls := .type "tuple_iterator", data := .fields #[.ref l, .int 0 0] })
      (o := { cls := .type "enumerate", data := .fields #[.none, .bool false, .ref s.heap.objs.size, rawInt 0, .none, .none] }) rfl
    rw [hz] at this; exact this
  refine ⟨⟨_, he, rfl⟩, h _ he ⟨_, Heap.get?_push_of_some _ (Heap.get?_push_size _ rfl), rfl, rfl⟩ (by rw [Heap.size_push, hz]) fun b o x => Heap.get?_push_of_some _ (Heap.get?_push_of_some _ x)⟩

section
variable {W : Wd} {A : Around} {X : Addr → Prop}
theorem itr_enum {elts : List Expr} {k : Nat} {pos : Pos} {e it ax : Addr} {items : Array Value} {ds : List D} {P : Nat → Value → Prop} {S : Nat → Heap → Prop}
    (D9 : Draws W.prog W.w A.in1 it [it, ax] ds.length P S) (hS : ∀ i h, S i h → ∃ o, h.get? it = some o) (hei : e ≠ it) (hXe : X e) (hXi : X it) (hax : ¬ X ax) :
    ∃ Md, Itr W A X (.Tuple elts k pos) e (fun b => b = e ∨ b = it) (ds.zipIdx.map fun p => D.tup [.int p.2, p.1])
      (fun i h => ((∃ old, IsEnum h e it (i : Int) old) ∧ S i h) ∧ ∀ (j : Nat) v d, P j v → ds[j]? = some d → Rep X h v d) Md := by
  have w := WalksT.enumerateD D9 e hei (by
    intro q
    rcases List.mem_cons.mp q with rfl | q
    · exact hei rfl
    · rw [List.mem_singleton.mp q] at hXe; exact hax hXe) (List.mem_cons_self ..)
  have hlen : (ds.zipIdx.map fun p => D.tup [.int p.2, p.1]).length = ds.length := by simp
  refine ⟨fun i v h => (∃ T t x, v = .ref T ∧ P i x ∧ h.IsTuple T #[.int i t, x] ∧ T ≠ e ∧ T ≠ it ∧ ((∃ x, IsEnumOut h e it (i + 1) x T) ∧ S (i + 1) h)) ∧ ∀ (j : Nat) v d, P j v → ds[j]? = some d → Rep X h v d, ⟨?_, ?_, ?_, ?_, ?_, ?_, ?_⟩⟩
  · rintro b (rfl | rfl)
    · exact hXe
    · exact hXi
  · rintro i h ⟨⟨⟨old, he⟩, st⟩, _⟩ b (rfl | rfl)
    · exact ⟨_, he⟩
    · exact hS _ _ st
  · rintro i h h' ⟨st, hr⟩ hk
    refine ⟨w.frame i h h' st fun b hb o q => hk b o ?_ q, fun j v d hp hd => (hr j v d hp hd).map fun b o hx q => ⟨hx, hk b o (.inr hx) q⟩⟩
    rcases List.mem_cons.mp hb with rfl | hb
    · exact .inl (.inl rfl)
    · rcases List.mem_cons.mp hb with rfl | hb
      · exact .inl (.inr rfl)
      · rw [List.mem_singleton.mp hb]; exact .inr hax
  · rintro i s Q E hi ⟨st, hr⟩ hQ
    rw [hlen] at hi
    refine w.item i s Q E hi st fun T vals h' tk hP hsz hT hm hk => ?_
    obtain ⟨t, x, hPx, rfl⟩ := hP
    have k9 : ∀ b o, ¬ (b = e ∨ b = it) → s.heap.get? b = some o → h'.get? b = some o := fun b o q e' => hk b o (by simpa using q) e'
    obtain ⟨ho, hs, h1, h2⟩ := hm
    exact hQ _ h' tk ⟨⟨T, t, x, rfl, hPx, hT, h1, h2, ho, hs⟩, fun j v d hp hd => (hr j v d hp hd).map fun b o hx q => ⟨hx, k9 b o (fun z => z.elim (fun z => hx (z ▸ hXe)) fun z => hx (z ▸ hXi)) q⟩⟩ k9
  · rintro i v d s Q E hd _ ⟨⟨T, t, x, rfl, hPx, hT, h1, h2, ho, hs⟩, hr⟩ hQ
    refine w.go elts k pos i T s Q E ⟨ho, hs, h1, h2⟩ fun h' st' hk => ?_
    have k9 : ∀ b o, ¬ (b = e ∨ b = it) → s.heap.get? b = some o → h'.get? b = some o := fun b o q e' => hk b o (by simpa using q) e'
    have hr' : ∀ (j : Nat) v d, P j v → ds[j]? = some d → Rep X h' v d := fun j v d hp hd => (hr j v d hp hd).map fun b o hx q => ⟨hx, k9 b o (fun z => z.elim (fun z => hx (z ▸ hXe)) fun z => hx (z ▸ hXi)) q⟩
    rw [List.getElem?_map] at hd
    obtain ⟨p, hp, rfl⟩ := Option.map_eq_some_iff.mp hd
    rw [List.getElem?_zipIdx] at hp
    obtain ⟨d', hd', rfl⟩ := Option.map_eq_some_iff.mp hp
    refine hQ h' ⟨st', hr'⟩ ⟨T, #[.int i t, x], [.int (0 + i : Nat), d'], rfl, .inl (hT.at fun o e' => k9 T o (fun z => z.elim h1 h2) e'), .inl (by simp), ?_⟩ k9
    refine .cons ?_ (.cons (hr' i x d' hPx hd') .nil)
    rw [Nat.zero_add]
    exact .int _ _
  · rintro s Q E ⟨st, hr⟩ hQ
    rw [hlen] at st
    exact w.done s Q E st fun h' tk hk => hQ h' tk fun b o q e' => hk b o (by simpa using q) e'
  · rintro i s Q E ⟨st, hr⟩ hQ
    exact w.self i s Q E st hQ
end
end Mine

end

section
open PySem PySem.W PySem.Calls PyProof.Rows PySem.Spec
namespace Mine

noncomputable def Room (k : Nat) (A : Around) : Prop := A.handled = none ∧ A.depth + 10 * k + 10 ≤ 900 ∧ A.units + 50 * k + 300 ≤ 9000

noncomputable def PostV (W : Wd) (X : Addr → Prop) (σ' : Nat) (v : V) (s : Shared) (Q : Value → Shared → Prop) : Prop :=
  ∀ u h' tk, Gr W s.heap h' → Inv W σ' h' → RepV W X h' u v → Q u { s with heap := h', toks := tk }

/-- a value that is called by the road of a plain call -/
noncomputable def CW (W : Wd) (f : Value) : Prop :=
  ∀ (A : Around) (E : Value → Shared → Prop) (s : Shared) (env : Env) (pos : Pos) (e : Expr) (rest : List Expr) (first : List Value) (Q : Value → Shared → Prop),
    starEach (e :: rest) env = (false, eval e env) :: starEach rest env → (backTo pos (starEach rest env)).any (·.1) = false →
    wpAny (model W.prog W.w) A (spliced (backTo pos (starEach (e :: rest) env))) (fun vs s₁ => (∀ b o, W.h₀.get? b = some o → s₁.heap.get? b = some o) ∧ wpAny (model W.prog W.w) A (call f (first ++ vs)) Q E s₁) E s →
    wpAny (model W.prog W.w) A (callWith pos f first (backTo pos (starEach (e :: rest) env)) []) Q E s

/-- a call as a code of its own -/
noncomputable def CallC (W : Wd) (A : Around) (f : Value) (us : List Value) (Q : Value → Shared → Prop) (E : Value → Shared → Prop) (s : Shared) : Prop :=
  codeAny (model W.prog W.w) A (.call f ⟨us, []⟩) (fun r s' => match r with | .ok (.ret v) => Q v s' | .ok _ => False | .error e => E e s') s

structure TabOK (W : Wd) (k : Nat) (T : Tab) : Prop where
  call : ∀ f vs σ v σ', T f vs σ = some (v, σ') → ∀ (A : Around), Room k A → ∀ (X : Addr → Prop) (E : Value → Shared → Prop) (s : Shared) (us : List Value) (Q : Value → Shared → Prop),
    XOk W X s.heap → Inv W σ s.heap → RepVs W X s.heap us vs → PostV W X σ' v s Q → wpAny (model W.prog W.w) A (call (W.fv f) us) Q E s
  code : ∀ m vs σ v σ', meths.contains m = true → T (("Evaluator." : Str) ++ m) vs σ = some (v, σ') → ∀ (A : Around), Room k A → ∀ (X : Addr → Prop) (E : Value → Shared → Prop) (s : Shared) (us : List Value) (Q : Value → Shared → Prop),
    XOk W X s.heap → Inv W σ s.heap → RepVs W X s.heap us vs → PostV W X σ' v s Q → CallC W A (W.fv (("Evaluator." : Str) ++ m)) us Q E s
  cw : ∀ f vs σ r, T f vs σ = some r → CW W (W.fv f)

noncomputable def GOK (W : Wd) (G : Str → Option V) : Prop :=
  ∀ x v, G x = some v → ∀ (X : Addr → Prop) h σ, XOk W X h → Inv W σ h → ∃ u, (W.mg x = some u ∨ (W.mg x = none ∧ W.mb x = some u)) ∧ RepV W X h u v

/-- what is asked of the Evaluator's object -/
structure EvOK (W : Wd) : Prop where
  many : ∀ (A : Around) (X : Addr → Prop) (E : Value → Shared → Prop) (s : Shared) a n rels (Q : Value → Shared → Prop), (∀ b o, W.h₀.get? b = some o → s.heap.get? b = some o) → EvAt W X s.heap a n rels →
    (∀ t tk, Q (.int n t) { s with toks := tk }) → wpAny (model W.prog W.w) A (getAttr (.ref a) "many" true) Q E s
  inst : ∀ (A : Around) (X : Addr → Prop) (E : Value → Shared → Prop) (s : Shared) a n rels (Q : Value → Shared → Prop), (∀ b o, W.h₀.get? b = some o → s.heap.get? b = some o) → EvAt W X s.heap a n rels →
    (∀ u tk, Rep X s.heap u (.list rels) → Q u { s with toks := tk }) → wpAny (model W.prog W.w) A (getAttr (.ref a) "instance" true) Q E s
  bound : ∀ (A : Around) (X : Addr → Prop) (E : Value → Shared → Prop) (s : Shared) a n rels (m : Str) (Q : Value → Shared → Prop), (∀ b o, W.h₀.get? b = some o → s.heap.get? b = some o) → meths.contains m = true → EvAt W X s.heap a n rels →
    (∀ tk, Q (.ref s.heap.objs.size) { s with heap := s.heap.push (methodObj (W.fv (("Evaluator." : Str) ++ m)) (.ref a)), toks := tk }) → wpAny (model W.prog W.w) A (getAttr (.ref a) m true) Q E s
  meth : ∀ (A : Around) (X : Addr → Prop) (E : Value → Shared → Prop) (s : Shared) a n rels (m : Str) (pl : Sem Bool) (Q : Value × List Value → Shared → Prop), (∀ b o, W.h₀.get? b = some o → s.heap.get? b = some o) → meths.contains m = true → EvAt W X s.heap a n rels →
    Q (W.fv (("Evaluator." : Str) ++ m), [.ref a]) s → wpAny (model W.prog W.w) A (getMethod (.ref a) m pl) Q E s
  /-- a bound method is called so -/
  cwM : ∀ (A : Around) (X : Addr → Prop) (E : Value → Shared → Prop) (s : Shared) (env : Env) (pos : Pos) (e : Expr) (rest : List Expr) q a (m : Str) n rels (Q : Value → Shared → Prop), meths.contains m = true →
    (∀ b o, W.h₀.get? b = some o → s.heap.get? b = some o) → s.heap.get? q = some (methodObj (W.fv (("Evaluator." : Str) ++ m)) (.ref a)) → EvAt W X s.heap a n rels →
    starEach (e :: rest) env = (false, eval e env) :: starEach rest env → (backTo pos (starEach rest env)).any (·.1) = false →
    wpAny (model W.prog W.w) A (spliced (backTo pos (starEach (e :: rest) env))) (fun vs s₁ => (∀ b o, W.h₀.get? b = some o → s₁.heap.get? b = some o) ∧ s₁.heap.get? q = some (methodObj (W.fv (("Evaluator." : Str) ++ m)) (.ref a)) ∧
      CallC W A (W.fv (("Evaluator." : Str) ++ m)) (.ref a :: vs) Q E s₁) E s →
    wpAny (model W.prog W.w) A (callWith pos (.ref q) [] (backTo pos (starEach (e :: rest) env)) []) Q E s

section
variable (W : Wd) (T : Tab) (G : Str → Option V) (k : Nat)

noncomputable def EvS (n : Nat) : Prop := ∀ nm e ρ σ v σ', ev T G n nm e ρ σ = some (v, σ') → ∀ (env : Env) (A : Around) (X : Addr → Prop) (E : Value → Shared → Prop) (s : Shared) (Q : Value → Shared → Prop),
  EnvOK W nm env → Room k A → St W X nm env ρ σ s.heap → PostV W X σ' v s Q → wpAny (model W.prog W.w) A (eval e env) Q E s

noncomputable def EvsS (n : Nat) : Prop := ∀ nm es ρ σ vs σ', evs T G n nm es ρ σ = some (vs, σ') → ∀ (env : Env) (A : Around) (X : Addr → Prop) (E : Value → Shared → Prop) (s : Shared) (pos : Pos) (Q : List Value → Shared → Prop),
  EnvOK W nm env → Room k A → St W X nm env ρ σ s.heap → (∀ us h' tk, Gr W s.heap h' → Inv W σ' h' → RepVs W X h' us vs → Q us { s with heap := h', toks := tk }) → wpAny (model W.prog W.w) A (spliced (backTo pos (starEach es env))) Q E s

noncomputable def EvOS (n : Nat) : Prop := ∀ nm eo ρ σ o σ', evO T G n nm eo ρ σ = some (o, σ') → ∀ (env : Env) (A : Around) (X : Addr → Prop) (E : Value → Shared → Prop) (s : Shared) (Q : Value → Shared → Prop),
  EnvOK W nm env → Room k A → St W X nm env ρ σ s.heap → (∀ u h' tk, Gr W s.heap h' → Inv W σ' h' → IsPart u o → Q u { s with heap := h', toks := tk }) → wpAny (model W.prog W.w) A (valueOrNone (evalOpt eo env)) Q E s

noncomputable def TstS (n : Nat) : Prop := ∀ nm e ρ σ b σ', tst T G n nm e ρ σ = some (b, σ') → ∀ (env : Env) (A : Around) (X : Addr → Prop) (E : Value → Shared → Prop) (s : Shared) (Q : Bool → Shared → Prop),
  EnvOK W nm env → Room k A → St W X nm env ρ σ s.heap → (∀ h' tk, Gr W s.heap h' → Inv W σ' h' → Q b { s with heap := h', toks := tk }) → wpAny (model W.prog W.w) A (isTrue e env (eval e env)) Q E s

noncomputable def TstsS (n : Nat) : Prop := ∀ nm es ρ σ b σ', tsts T G n nm es ρ σ = some (b, σ') → ∀ (env : Env) (A : Around) (X : Addr → Prop) (E : Value → Shared → Prop) (s : Shared) (Q : Bool → Shared → Prop),
  EnvOK W nm env → Room k A → St W X nm env ρ σ s.heap → (∀ h' tk, Gr W s.heap h' → Inv W σ' h' → Q b { s with heap := h', toks := tk }) →
  wpAny (model W.prog W.w) A (forIn es true fun c r => if r = true then do let ok ← isTrue c env (eval c env); pure (ForInStep.yield ok) else pure (ForInStep.yield r)) Q E s

noncomputable def EvIS (n : Nat) : Prop := ∀ nm target e ρ σ ds σ', evI T G n nm target e ρ σ = some (ds, σ') → ∀ (env : Env) (A : Around) (X : Addr → Prop) (E : Value → Shared → Prop) (s : Shared) (Q : Value → Shared → Prop),
  EnvOK W nm env → Room k A → St W X nm env ρ σ s.heap →
  (∀ (I : Addr) (N : Addr → Prop) h' tk, (∀ Y : Addr → Prop, (∀ b, X b ∨ N b → Y b) → (∀ b, Y b → X b ∨ N b ∨ h'.get? b = none) → ∃ Stt Md, Itr W A Y target I N ds Stt Md ∧ Stt 0 h') →
    (∀ b, N b → s.heap.get? b = none ∧ ∃ o, h'.get? b = some o) → Gr W s.heap h' → Inv W σ' h' → Q (.ref I) { s with heap := h', toks := tk }) →
  wpAny (model W.prog W.w) A (eval e env) (fun x s₁ => wpAny (model W.prog W.w) A (pyIter x) Q E s₁) E s
end

section
variable {W : Wd} {T : Tab} {G : Str → Option V} {k : Nat} {X : Addr → Prop} {nm : Names} {env : Env} {ρ : Rho} {σ σ' : Nat} {A : Around} {E : Value → Shared → Prop} {s : Shared}

theorem PostV.here {v : V} {Q : Value → Shared → Prop} (P : PostV W X σ v s Q) (i : Inv W σ s.heap) {u : Value} (r : RepV W X s.heap u v) (tk : Nat) : Q u { s with toks := tk } := P u s.heap tk Gr.refl i r
theorem PostV.after {v : V} {Q : Value → Shared → Prop} {h' : Heap} {tk : Nat} (P : PostV W X σ' v s Q) (g : Gr W s.heap h') : PostV W X σ' v { s with heap := h', toks := tk } Q :=
  fun u h'' tk' g' i r => P u h'' tk' (g.trans g') i r

theorem PostV.of {v v' : V} {Q : Value → Shared → Prop} (h : some (v', σ) = some (v, σ')) (P : PostV W X σ' v s Q) : PostV W X σ v' s Q :=
  pairK h fun e1 e2 => by rw [e1, e2]; exact P

theorem ev_star {n : Nat} {e : Expr} {v : V} (h : ev T G n nm e ρ σ = some (v, σ')) (rest : List Expr) (env : Env) : starEach (e :: rest) env = (false, eval e env) :: starEach rest env := by
  cases n with
  | zero => exact nos h
  | succ n => induction e using Expr.casesOn <;> first | rfl | exact nos h
theorem ev_noMark {n : Nat} {e : Expr} {v : V} (op : CmpOp) (h : ev T G n nm e ρ σ = some (v, σ')) : behindInMarks op e = false := by
  cases n with
  | zero => exact nos h
  | succ n => induction e using Expr.casesOn <;> first | rfl | exact nos h
theorem evs_one {n : Nat} {e : Expr} {es : List Expr} {vs : List V} {P : Prop} (h : evs T G (n + 1) nm (e :: es) ρ σ = some (vs, σ')) (k : ∀ v ws, ev T G n nm e ρ σ = some v → evs T G n nm es ρ v.2 = some (ws, σ') → vs = v.1 :: ws → P) : P :=
  bindK h fun v h1 h => bindK h fun ws h2 h => pairK h fun e1 e2 => k v ws.1 h1 (by rw [h2, ← e2]) e1.symm
theorem evs_plain : ∀ {n : Nat} {es : List Expr} {vs : List V} {σ σ' : Nat}, evs T G n nm es ρ σ = some (vs, σ') → ∀ (env : Env) (pos : Pos), (backTo pos (starEach es env)).any (·.1) = false := by
  intro n
  induction n with
  | zero => intro es vs σ σ' h; exact nos h
  | succ n ih =>
    intro es vs σ σ' h env pos
    cases es with
    | nil => rfl
    | cons e es =>
      refine evs_one h fun v ws h1 h2 _ => ?_
      rw [ev_star h1]
      exact ih h2 env pos

theorem evs_sound {n : Nat} (IH : EvS W T G k n) (IHs : EvsS W T G k n) : EvsS W T G k (n + 1) := by
  intro nm es ρ σ vs σ' h env A X E s pos Q O R S hQ
  cases es with
  | nil =>
    refine pairK h fun e1 e2 => ?_
    subst e1; subst e2
    exact args_nil (hQ [] s.heap s.toks Gr.refl S.i .nil)
  | cons e es =>
    refine evs_one h fun v ws h1 h2 e3 => ?_
    subst e3
    refine args_cons (IH nm e ρ σ v.1 v.2 h1 env A X E s _ O R S fun u h' tk g i r => ?_) (ev_star h1 es env)
    refine IHs nm es ρ v.2 ws σ' h2 env A X E _ pos _ O R (S.gr O g i) fun us h'' tk' g' i' r' => ?_
    exact hQ (u :: us) h'' tk' (g.trans g') i' (.cons (r.gr (S.x.gr g i) g') r')

theorem dOf_rep {v : V} {d : D} {h : Heap} {u : Value} (e : dOf? v = some d) (r : RepV W X h u v) : Rep X h u d := by
  rw [dOf_inv e] at r; exact r
theorem int_rep {v : V} {d : D} {i : Int} {h : Heap} {u : Value} (e : dOf? v = some d) (e' : intD? d = some i) (r : RepV W X h u v) : ∃ t, u = .int i t := by
  have r' := dOf_rep e r
  rw [intD_inv e'] at r'
  cases r' with
  | int _ t => exact ⟨t, rfl⟩

theorem evO_sound {n : Nat} (IH : EvS W T G k n) : EvOS W T G k (n + 1) := by
  intro nm eo ρ σ o σ' h env A X E s Q O R S hQ
  cases eo with
  | none =>
    refine pairK h fun e1 e2 => ?_
    subst e1; subst e2
    exact wpAny_pure (hQ .none s.heap s.toks Gr.refl S.i .none)
  | some e =>
    refine bindK h fun v h1 h => bindK h fun x h2 h => bindK h fun i9 h3 h => pairK h fun e1 e2 => ?_
    subst e1; subst e2
    refine wpAny_evalPart_some (IH nm e ρ σ _ v.2 h1 env A X E s _ O R S fun u h' tk g i r => ?_)
    obtain ⟨t, rfl⟩ := int_rep h2 h3 r
    exact hQ _ h' tk g i (.int i9 t)
end
end Mine

end

section
open PySem PySem.W PySem.Calls PyProof.Rows PySem.Spec
namespace Mine

section
variable {W : Wd} {T : Tab} {G : Str → Option V} {k n : Nat} {X : Addr → Prop} {nm : Names} {env : Env} {ρ : Rho} {σ σ' : Nat} {A : Around} {E : Value → Shared → Prop} {s : Shared} {v : V} {Q : Value → Shared → Prop}

theorem truth_ok {b : Bool} {u : Value} {Q : Bool → Shared → Prop} (h : truth? v = some b) (r : RepV W X s.heap u v) (hQ : Q b s) : wpAny (model W.prog W.w) A (truthy u) Q E s := by
  refine bindK h fun d h1 h => ?_
  have r' := dOf_rep h1 r
  rw [boolD_inv h] at r'
  cases r'
  exact wpAny_pure hQ

theorem Room.units (R : Room k A) : A.units + 64 < cLine := by
  have := R.2.2
  unfold cLine; omega

theorem arm_Constant {c : Const} {q : Nat} {p : Pos} (h : ev T G (n + 1) nm (.Constant c q p) ρ σ = some (v, σ')) (S : St W X nm env ρ σ s.heap) (P : PostV W X σ' v s Q) :
    wpAny (model W.prog W.w) A (eval (.Constant c q p) env) Q E s := by
  refine bindK h fun d hd h => ?_
  have P := P.of h
  clear h
  induction c using Const.casesOn <;> first | exact nos hd | skip
  · cases hd; exact wpAny_Constant_none (P _ s.heap s.toks Gr.refl S.i .none)
  · cases hd; exact wpAny_Constant_bool (P _ s.heap s.toks Gr.refl S.i (.bool _))
  · cases hd; exact wpAny_Constant_int (P _ s.heap _ Gr.refl S.i (.int _ _))
  · cases hd; exact wpAny_Constant_str (P _ s.heap _ Gr.refl S.i (.str _ _))

theorem arm_Name (Wo : WdOk W) (Go : GOK W G) {x : Str} {p : Pos} (h : ev T G (n + 1) nm (.Name x p) ρ σ = some (v, σ')) (O : EnvOK W nm env) (S : St W X nm env ρ σ s.heap) (P : PostV W X σ' v s Q) :
    wpAny (model W.prog W.w) A (eval (.Name x p) env) Q E s := by
  have own : (nm.lookup x = some .local ∨ celled nm x) → (ρ.lookup x).bind (fun v => some (v, σ)) = some (v, σ') → wpAny (model W.prog W.w) A (eval (.Name x p) env) Q E s := fun hk h =>
    bindK h fun v' hv h => load_ok O S hk hv fun u r => P.of h u s.heap s.toks Gr.refl S.i r
  refine bindK h fun kd hk h => ?_
  induction kd using NameKind.casesOn
  case «local» => exact own (.inl hk) h
  case cell => exact own (.inr (.inl hk)) h
  case free => exact own (.inr (.inr hk)) h
  case globalImplicit =>
    refine bindK h fun v' hv h => ?_
    have P := P.of h
    obtain ⟨u, hu, r⟩ := Go x v' hv X s.heap σ S.x S.i
    have ng : s.heap.Ns env.globals W.mg := O.glob ▸ Wo.ns.at' fun o e => S.i.base _ o e
    have nb : s.heap.Ns env.builtins W.mb := O.blt ▸ Wo.nb.at' fun o e => S.i.base _ o e
    refine Name_function_global O.kind (O.gl x hk) ?_ (O.noD x _ hk)
    rcases hu with hu | ⟨h1, h2⟩
    · exact loadGlobal_global ng hu (P u s.heap s.toks Gr.refl S.i r)
    · exact loadGlobal_builtin ng h1 nb h2 (P u s.heap s.toks Gr.refl S.i r)
  all_goals exact nos h

theorem arm_BinOp (Wo : WdOk W) (IH : EvS W T G k n) {l r : Expr} {op : Operator} {p : Pos} (h : ev T G (n + 1) nm (.BinOp l op r p) ρ σ = some (v, σ')) (O : EnvOK W nm env) (R : Room k A) (S : St W X nm env ρ σ s.heap) (P : PostV W X σ' v s Q) :
    wpAny (model W.prog W.w) A (eval (.BinOp l op r p) env) Q E s := by
  refine bindK h fun x h1 h => bindK h fun a ha h => bindK h fun y h2 h => bindK h fun b hb h => bindK h fun d h3 h => ?_
  refine wpAny_BinOp (IH nm l ρ σ _ _ h1 env A X E s _ O R S fun u h' tk g i r1 => IH nm r ρ _ _ _ h2 env A X E _ _ O R (S.gr O g i) fun u' h'' tk' g' i' r2 => ?_)
  exact bin_ok h3 (Rep.gr (S.gr O g i).x g' (dOf_rep ha r1)) (dOf_rep hb r2) (S.gr O (g.trans g') i').x fun w h3 tk3 kp r3 => P.of h w h3 tk3 ((g.trans g').trans (Gr.of_keeps kp)) (i'.keeps Wo kp) r3

theorem arm_Not (IH : EvS W T G k n) {x : Expr} {p : Pos} (h : ev T G (n + 1) nm (.UnaryOp .Not x p) ρ σ = some (v, σ')) (O : EnvOK W nm env) (R : Room k A) (S : St W X nm env ρ σ s.heap) (P : PostV W X σ' v s Q) :
    wpAny (model W.prog W.w) A (eval (.UnaryOp .Not x p) env) Q E s :=
  bindK h fun _ h1 h => bindK h fun _ h2 h => wpAny_UnaryOp (IH nm x ρ σ _ _ h1 env A X E s _ O R S fun _ h' tk g i r1 => not_value (truth_ok h2 r1 (P.of h _ h' tk g i (.bool _))))

theorem arm_USub {x : Expr} {p : Pos} (h : ev T G (n + 1) nm (.UnaryOp .USub x p) ρ σ = some (v, σ')) (S : St W X nm env ρ σ s.heap) (P : PostV W X σ' v s Q) :
    wpAny (model W.prog W.w) A (eval (.UnaryOp .USub x p) env) Q E s :=
  bindK h fun i h1 hh => bindK h1 fun c hc hi => by
    have P := P.of hh
    clear h hh h1
    obtain ⟨_, _, rfl⟩ := const_inv hc
    rw [cInt_inv hi]
    exact wpAny_UnaryOp (wpAny_Constant_int (PyProof.Rows.neg_int (P _ s.heap _ Gr.refl S.i (.int _ _))))

theorem arm_IfExp (IH : EvS W T G k n) (IT : TstS W T G k n) {t a b : Expr} {p : Pos} (h : ev T G (n + 1) nm (.IfExp t a b p) ρ σ = some (v, σ')) (O : EnvOK W nm env) (R : Room k A) (S : St W X nm env ρ σ s.heap) (P : PostV W X σ' v s Q) :
    wpAny (model W.prog W.w) A (eval (.IfExp t a b p) env) Q E s := by
  refine bindK h fun c h1 h => wpAny_IfExp (IT nm t ρ σ c.1 c.2 h1 env A X E s _ O R S fun h' tk g i => ?_)
  obtain ⟨c, σ₁⟩ := c
  cases c with
  | true => exact IH nm a ρ _ _ _ h env A X E _ _ O R (S.gr O g i) (P.after g)
  | false => exact IH nm b ρ _ _ _ h env A X E _ _ O R (S.gr O g i) (P.after g)

theorem arm_BoolOp (IH : EvS W T G k n) {op : BoolOp} {es : List Expr} {p : Pos} (h : ev T G (n + 1) nm (.BoolOp op es p) ρ σ = some (v, σ')) (O : EnvOK W nm env) (R : Room k A) (S : St W X nm env ρ σ s.heap) (P : PostV W X σ' v s Q) :
    wpAny (model W.prog W.w) A (eval (.BoolOp op es p) env) Q E s := by
  refine bindK h fun ab he h => bindK h fun x h1 h => bindK h fun c h2 h => ?_
  rw [two_inv he]
  cases op with
  | And =>
    refine wpAny_And2 (IH nm ab.1 ρ σ _ _ h1 env A X E s _ O R S fun u h' tk g i r => truth_ok h2 r ?_)
    cases c with
    | true => exact IH nm ab.2 ρ _ _ _ h env A X E _ _ O R (S.gr O g i) (P.after g)
    | false => exact P.of h u h' tk g i r
  | Or =>
    refine wpAny_Or2 (IH nm ab.1 ρ σ _ _ h1 env A X E s _ O R S fun u h' tk g i r => truth_ok h2 r ?_)
    cases c with
    | false => exact IH nm ab.2 ρ _ _ _ h env A X E _ _ O R (S.gr O g i) (P.after g)
    | true => exact P.of h u h' tk g i r

theorem arm_Compare (IH : EvS W T G k n) {l : Expr} {ops : List CmpOp} {rs : List Expr} {p : Pos} (h : ev T G (n + 1) nm (.Compare l ops rs p) ρ σ = some (v, σ')) (O : EnvOK W nm env) (R : Room k A) (S : St W X nm env ρ σ s.heap) (P : PostV W X σ' v s Q) :
    wpAny (model W.prog W.w) A (eval (.Compare l ops rs p) env) Q E s := by
  refine bindK h fun op ho h => bindK h fun r hr h => bindK h fun a h1 h => bindK h fun b h2 h => bindK h fun c h3 h => ?_
  rw [one_inv ho, one_inv hr]
  exact wpAny_Compare1 (IH nm l ρ σ _ _ h1 env A X E s _ O R S fun u h' tk g i r1 => IH nm r ρ _ _ _ h2 env A X E _ _ O R (S.gr O g i) fun u' h'' tk' g' i' r2 =>
    cmp_ok h3 R.units (RepV.gr (S.gr O g i).x g' r1) r2 fun tk3 => P.of h _ h'' tk3 (g.trans g') i' (.bool _)) (ev_noMark op h2)

theorem tst_Compare (IH : EvS W T G k n) {l : Expr} {ops : List CmpOp} {rs : List Expr} {p : Pos} {c : Bool} {whole : Sem Value} {Q : Bool → Shared → Prop} (h : tst T G (n + 1) nm (.Compare l ops rs p) ρ σ = some (c, σ')) (O : EnvOK W nm env) (R : Room k A) (S : St W X nm env ρ σ s.heap)
    (P : ∀ h' tk, Gr W s.heap h' → Inv W σ' h' → Q c { s with heap := h', toks := tk }) :
    wpAny (model W.prog W.w) A (isTrue (.Compare l ops rs p) env whole) Q E s := by
  refine bindK h fun op ho h => bindK h fun r hr h => bindK h fun a h1 h => bindK h fun b h2 h => bindK h fun c' h3 h => pairK h fun e1 e2 => ?_
  subst e1; subst e2
  rw [one_inv ho, one_inv hr]
  exact wpAny_isTrue_Compare1 (IH nm l ρ σ _ _ h1 env A X E s _ O R S fun u h' tk g i r1 => IH nm r ρ _ _ _ h2 env A X E _ _ O R (S.gr O g i) fun u' h'' tk' g' i' r2 =>
    cmp_ok h3 R.units (RepV.gr (S.gr O g i).x g' r1) r2 fun tk3 => wpAny_pure (P h'' tk3 (g.trans g') i')) (ev_noMark op h2)

theorem tst_value (IH : EvS W T G k n) {e : Expr} {c : Bool} {Q : Bool → Shared → Prop} (h : (ev T G n nm e ρ σ).bind (fun x => (truth? x.1).bind fun b => some (b, x.2)) = some (c, σ')) (O : EnvOK W nm env) (R : Room k A) (S : St W X nm env ρ σ s.heap)
    (P : ∀ h' tk, Gr W s.heap h' → Inv W σ' h' → Q c { s with heap := h', toks := tk }) (he : isTrue e env (eval e env) = (do let v ← eval e env; standAt e.pos; holding [v] (truthy v))) :
    wpAny (model W.prog W.w) A (isTrue e env (eval e env)) Q E s :=
  bindK h fun a h1 h => bindK h fun b h2 h => pairK h fun e1 e2 => by
    subst e1; subst e2
    exact wpAny_isTrue_value (IH nm e ρ σ _ _ h1 env A X E s _ O R S fun u h' tk g i r1 => truth_ok h2 r1 (P h' tk g i)) he

theorem tst_BoolOp (IT : TstS W T G k n) {op : BoolOp} {es : List Expr} {p : Pos} {c : Bool} {whole : Sem Value} {Q : Bool → Shared → Prop} (h : tst T G (n + 1) nm (.BoolOp op es p) ρ σ = some (c, σ')) (O : EnvOK W nm env) (R : Room k A) (S : St W X nm env ρ σ s.heap)
    (P : ∀ h' tk, Gr W s.heap h' → Inv W σ' h' → Q c { s with heap := h', toks := tk }) :
    wpAny (model W.prog W.w) A (isTrue (.BoolOp op es p) env whole) Q E s := by
  refine bindK h fun ab he h => bindK h fun c' h1 h => ?_
  rw [two_inv he]
  obtain ⟨c', σ₁⟩ := c'
  cases op with
  | And =>
    refine wpAny_isTrue_BoolOp (wpAny_allTrue_And_cons (IT nm ab.1 ρ σ _ _ h1 env A X E s _ O R S fun h' tk g i => ?_))
    cases c' with
    | true =>
      refine wpAny_allTrue_And_cons (IT nm ab.2 ρ _ _ _ h env A X E _ _ O R (S.gr O g i) fun h'' tk' g' i' => ?_)
      cases c with
      | true => exact wpAny_allTrue_And_nil (P h'' tk' (g.trans g') i')
      | false => exact P h'' tk' (g.trans g') i'
    | false => exact pairK h fun e1 e2 => by subst e1; subst e2; exact P h' tk g i
  | Or =>
    refine wpAny_isTrue_BoolOp (wpAny_allTrue_Or_cons (IT nm ab.1 ρ σ _ _ h1 env A X E s _ O R S fun h' tk g i => ?_))
    cases c' with
    | false =>
      refine wpAny_allTrue_Or_cons (IT nm ab.2 ρ _ _ _ h env A X E _ _ O R (S.gr O g i) fun h'' tk' g' i' => ?_)
      cases c with
      | false => exact wpAny_allTrue_Or_nil (P h'' tk' (g.trans g') i')
      | true => exact P h'' tk' (g.trans g') i'
    | true => exact pairK h fun e1 e2 => by subst e1; subst e2; exact P h' tk g i

theorem tst_sound (IH : EvS W T G k n) (IT : TstS W T G k n) : TstS W T G k (n + 1) := by
  intro nm e ρ σ c σ' h env A X E s Q O R S P
  induction e using Expr.casesOn
  case Compare l ops rs p => exact tst_Compare IH h O R S P
  case UnaryOp op x p =>
    induction op using UnaryOp.casesOn
    case Not =>
      refine bindK h fun b h1 h => pairK h fun e1 e2 => ?_
      subst e1; subst e2
      exact wpAny_isTrue_Not (IT nm x ρ σ _ _ h1 env A X E s _ O R S P)
    all_goals exact nos h
  case IfExp t a b p =>
    refine bindK h fun c' h1 h => ?_
    rw [arm_isTrue_IfExp]
    obtain ⟨c', σ₁⟩ := c'
    refine wpAny_bind (IT nm t ρ σ _ _ h1 env A X E s _ O R S fun h' tk g i => ?_)
    cases c' with
    | true => exact IT nm a ρ _ _ _ h env A X E _ _ O R (S.gr O g i) fun h'' tk' g' i' => P h'' tk' (g.trans g') i'
    | false => exact IT nm b ρ _ _ _ h env A X E _ _ O R (S.gr O g i) fun h'' tk' g' i' => P h'' tk' (g.trans g') i'
  case BoolOp op es p => exact tst_BoolOp IT h O R S P
  all_goals exact tst_value IH h O R S P rfl

theorem tsts_sound (IT : TstS W T G k n) (ITs : TstsS W T G k n) : TstsS W T G k (n + 1) := by
  intro nm es ρ σ c σ' h env A X E s Q O R S P
  cases es with
  | nil =>
    refine pairK h fun e1 e2 => ?_
    subst e1; subst e2
    exact wpAny_pure (P s.heap s.toks Gr.refl S.i)
  | cons e es =>
    refine bindK h fun c' h1 h => ?_
    obtain ⟨c', σ₁⟩ := c'
    rw [List.forIn_cons, if_pos rfl]
    refine wpAny_bind (wpAny_bind (IT nm e ρ σ _ _ h1 env A X E s _ O R S fun h' tk g i => wpAny_pure ?_))
    dsimp only
    cases c' with
    | true => exact ITs nm es ρ _ _ _ h env A X E _ _ O R (S.gr O g i) fun h'' tk' g' i' => P h'' tk' (g.trans g') i'
    | false =>
      refine pairK h fun e1 e2 => ?_
      subst e1; subst e2
      have fin : ∀ (l : List Expr), (forIn l false fun c r => if r = true then do let ok ← isTrue c env (eval c env); pure (ForInStep.yield ok) else pure (ForInStep.yield r)) = (pure false : Sem Bool) := by
        intro l
        induction l with
        | nil => rw [List.forIn_nil]
        | cons e l ih => rw [List.forIn_cons, if_neg (by decide), pure_bind]; exact ih
      exact wpAny_of_eq (fin es) (P h' tk g i)
end
end Mine

end

section
open PySem PySem.W PySem.Calls PyProof.Rows PySem.Spec
namespace Mine

section
variable {W : Wd} {X Y : Addr → Prop} {nm : Names} {env : Env} {h h' : Heap} {ρ : Rho} {σ σ' : Nat}

theorem get_end (h : Heap) {a : Addr} (ha : h.objs.size ≤ a) : h.get? a = none := by
  cases e : h.get? a with
  | none => rfl
  | some o => exact absurd (Heap.lt_size e) (Nat.not_lt.mpr ha)

/-- new addresses are shut out -/
theorem XOk.shut (x : XOk W X h) (i : Inv W σ h) (kp : ∀ b o, h.get? b = some o → h'.get? b = some o) (hX : ∀ b, X b → Y b) (hY : ∀ b, Y b → X b ∨ (h.get? b = none ∧ ∃ o, h'.get? b = some o)) : XOk W Y h' where
  at_ := fun b hb => (hY b hb).elim (fun q => let ⟨o, e⟩ := x.at_ b q; ⟨o, kp b o e⟩) (·.2)
  base := fun b hb => (hY b hb).elim (x.base b) fun ⟨q, _⟩ => by
    cases e : W.h₀.get? b with
    | none => rfl
    | some o => rw [i.base b o e] at q; cases q
  fd := hX _ x.fd
  cl := fun q => (hY _ q).elim x.cl fun ⟨q, _⟩ => by
    obtain ⟨o, e⟩ := i.clat
    rw [e] at q; cases q

theorem shut_map (hY : ∀ b, Y b → X b ∨ (h.get? b = none ∧ ∃ o, h'.get? b = some o)) (kp : ∀ b o, h.get? b = some o → h'.get? b = some o) : ∀ b o, ¬ X b → h.get? b = some o → ¬ Y b ∧ h'.get? b = some o :=
  fun b o hb e => ⟨fun q => (hY b q).elim hb (fun ⟨q, _⟩ => absurd (q.symm.trans e) (by simp)), kp b o e⟩

theorem St.shut (Wo : WdOk W) (S : St W X nm env ρ σ h) (kp : ∀ b o, h.get? b = some o → h'.get? b = some o) (hX : ∀ b, X b → Y b) (hY : ∀ b, Y b → X b ∨ (h.get? b = none ∧ ∃ o, h'.get? b = some o)) : St W Y nm env ρ σ h' :=
  ⟨S.x.shut S.i kp hX hY, S.i.keeps Wo kp, S.l.map (shut_map hY kp) (fun b o _ e => kp b o e) fun b hb => hX b (S.l.own b hb)⟩
end

theorem plain_reps {W : Wd} {X : Addr → Prop} {h : Heap} : ∀ {us : List Value} {vs : List V} {ds : List D}, RepVs W X h us vs → Rho.plain? vs = some ds → Reps X h us ds := by
  intro us vs ds r
  induction r generalizing ds with
  | nil => intro h; cases h; exact .nil
  | @cons u us v vs hu _ ih =>
    intro h
    refine bindK h fun x h1 h => bindK h fun l hl h => ?_
    cases h
    exact .cons (dOf_rep h1 hu) (ih hl)

section
variable {W : Wd} {T : Tab} {G : Str → Option V} {k n : Nat} {X : Addr → Prop} {nm : Names} {env : Env} {ρ : Rho} {σ σ' : Nat} {A : Around} {E : Value → Shared → Prop} {s : Shared} {v : V} {Q : Value → Shared → Prop}

theorem arm_Tuple (IHs : EvsS W T G k n) {es : List Expr} {q : Nat} {p : Pos} (h : (evs T G n nm es ρ σ).bind (fun x => (Rho.plain? x.1).bind fun ds => if ds.length < LIM then some (V.d (.tup ds), x.2) else none) = some (v, σ'))
    (Wo : WdOk W) (O : EnvOK W nm env) (R : Room k A) (S : St W X nm env ρ σ s.heap) (P : PostV W X σ' v s Q) : wpAny (model W.prog W.w) A (eval (.Tuple es q p) env) Q E s := by
  refine bindK h fun vs h1 h => bindK h fun ds h2 h => ifS h fun hl h => ?_
  have P := P.of h
  refine wpAny_Tuple (IHs nm es ρ σ _ _ h1 env A X E s p _ O R S fun us h' tk g i r => ?_)
  have hr := plain_reps r h2
  have x' := (S.gr O g i).x
  refine ⟨by rw [hr.length]; exact lim_size hl, P _ _ tk (g.trans (Gr.of_keeps (push_keeps _ _))) (i.keeps Wo (push_keeps _ _)) ?_⟩
  exact Rep.newTup x'.new (Heap.get?_push_size _ rfl) (push_keeps _ _) (by simpa using hr) hl

theorem arm_List (IHs : EvsS W T G k n) {es : List Expr} {p : Pos} (h : (evs T G n nm es ρ σ).bind (fun x => (Rho.plain? x.1).bind fun ds => if ds.length < LIM then some (V.d (.list ds), x.2) else none) = some (v, σ'))
    (Wo : WdOk W) (O : EnvOK W nm env) (R : Room k A) (S : St W X nm env ρ σ s.heap) (P : PostV W X σ' v s Q) : wpAny (model W.prog W.w) A (eval (.List es p) env) Q E s := by
  refine bindK h fun vs h1 h => bindK h fun ds h2 h => ifS h fun hl h => ?_
  have P := P.of h
  refine wpAny_List (IHs nm es ρ σ _ _ h1 env A X E s p _ O R S fun us h' tk g i r => ?_)
  have hr := plain_reps r h2
  have x' := (S.gr O g i).x
  refine ⟨by rw [hr.length]; exact lim_size hl, P _ _ tk (g.trans (Gr.of_keeps (push_keeps _ _))) (i.keeps Wo (push_keeps _ _)) ?_⟩
  exact Rep.newList x'.new (Heap.get?_push_size _ rfl) (push_keeps _ _) (by simpa using hr) hl

theorem arm_Dict0 {p : Pos} (Wo : WdOk W) (S : St W X nm env ρ σ s.heap) (P : PostV W X σ (.keys []) s Q) : wpAny (model W.prog W.w) A (eval (.Dict [] [] p) env) Q E s := by
  refine wpAny_Dict_empty (P _ _ s.toks (Gr.of_keeps (push_keeps _ _)) (S.i.keeps Wo (push_keeps _ _)) ⟨_, rfl, S.x.new, ?_, .inr ⟨[], Heap.DictOf.new _, rfl⟩⟩)
  obtain ⟨a9, o, hlt, e⟩ := Wo.sys
  have := Nat.lt_trans hlt (Heap.lt_size (S.i.base _ _ e))
  exact beq_eq_false_iff_ne.mpr (fun q => Nat.lt_irrefl _ (q ▸ this))

theorem arm_item (IH : EvS W T G k n) {e i : Expr} {p : Pos} (hi : slice? i = none) (h : (ev T G n nm e ρ σ).bind (fun x => (ev T G n nm i ρ x.2).bind fun y => (subV y.2 x.1 y.1).bind fun v => some (v, y.2)) = some (v, σ'))
    (O : EnvOK W nm env) (R : Room k A) (S : St W X nm env ρ σ s.heap) (P : PostV W X σ' v s Q) : wpAny (model W.prog W.w) A (eval (.Subscript e i p) env) Q E s := by
  refine bindK h fun a h1 h => bindK h fun b h2 h => bindK h fun v' h3 h => ?_
  refine Subscript_ (IH nm e ρ σ _ _ h1 env A X E s _ O R S fun u h' tk g j r1 => IH nm _ ρ _ _ _ h2 env A X E _ _ O R (S.gr O g j) fun u' h'' tk' g' i' r2 => ?_)
  have x' := (S.gr O g j).x
  refine item_ok (s := { s with heap := h'', toks := tk' }) h3 (x'.gr g' i') i' (RepV.gr x' g' r1) r2 (fun o i9 => ?_) fun u tk9 r => P.of h u h'' tk9 (g.trans g') i' r
  clear h h1 h2 r2 IH
  induction i using Expr.casesOn <;> first | exact nos hi.symm | rfl

theorem arm_slice (Wo : WdOk W) (IH : EvS W T G k n) (IHO : EvOS W T G k n) {e : Expr} {lo hi : Option Expr} {p q : Pos} {v₁ : V} {σ₁ σ₂ : Nat} {l u : Option Int} {x d : D}
    (h1 : ev T G n nm e ρ σ = some (v₁, σ₁)) (hx : dOf? v₁ = some x) (h2 : evO T G n nm lo ρ σ₁ = some (l, σ₂)) (h3 : evO T G n nm hi ρ σ₂ = some (u, σ')) (hc : cutV l u x = some d)
    (O : EnvOK W nm env) (R : Room k A) (S : St W X nm env ρ σ s.heap) (P : PostV W X σ' (.d d) s Q) : wpAny (model W.prog W.w) A (eval (.Subscript e (.Slice lo hi none q) p) env) Q E s := by
  refine Subscript_ (IH nm e ρ σ _ _ h1 env A X E s _ O R S fun ua h' tk g i r1 => ?_)
  rw [arm_eval_Slice]
  have S1 := S.gr O g i
  refine wpAny_bind (IHO nm lo ρ _ _ _ h2 env A X E _ _ O R S1 fun ul h2' tk2 g2 i2 pl => ?_)
  have S2 := S1.gr O g2 i2
  refine wpAny_bind (wpAny_holding (IHO nm hi ρ _ _ _ h3 env A X E _ _ O R S2 fun uu h3' tk3 g3 i3 pu => ?_))
  have S3 := S2.gr O g3 i3
  refine wpAny_bind (wpAny_holding (wpAny_pure ?_))
  have r3 : Rep X h3' ua x := Rep.gr S2.x g3 (Rep.gr S1.x g2 (dOf_rep hx r1))
  have g4 := (g.trans g2).trans g3
  refine wpAny_newObj_type ?_ (by show ([ul, uu, Value.none]).toArray.size ≤ sizeLine + 2; rw [sizeLine_eq]; show 3 ≤ 16777216 + 2; decide)
  have kp := push_keeps h3' { cls := .type "slice", data := .fields #[ul, uu, .none] }
  have x4 := S3.x.keeps kp
  have fin : ∀ w h4 tk4, (∀ b o, (h3'.push { cls := .type "slice", data := .fields #[ul, uu, .none] }).get? b = some o → h4.get? b = some o) → Rep X h4 w d → Q w { s with heap := h4, toks := tk4 } := fun w h4 tk4 kp4 r4 =>
    P w h4 tk4 (g4.trans (Gr.of_keeps fun b o e => kp4 b o (kp b o e))) (i3.keeps Wo fun b o e => kp4 b o (kp b o e)) r4
  clear P r1 hx S1 S2 S3 h1 h2 h3 IH IHO S g g2 g3 g4 i i2 i3
  induction x using D.casesOn
  case tup ds =>
    obtain rfl := Option.some.inj hc
    cases r3 with
    | @tup a o vs n9 _ hx ho hc hdt hr hl =>
      refine tail_any (ops := [.ref h3'.objs.size, .ref a]) (T := "tuple") ⟨o, kp _ _ ho, hc⟩ PyProof.Rows.slot_tuple_getitem.lookup ?_ rfl
      exact tup_slice hx (kp _ _ ho) hc hdt (hr.map fun b o hx e => ⟨hx, kp b o e⟩) hl x4 ⟨_, Heap.get?_push_size _ rfl, rfl, rfl⟩ pl pu fin
  case list ds =>
    obtain rfl := Option.some.inj hc
    cases r3 with
    | @list a o vs n9 _ hx ho hc hdt hdn hr hl =>
      refine tail_any (ops := [.ref h3'.objs.size, .ref a]) (T := "list") ⟨o, kp _ _ ho, hc⟩ list_getitem_lookup ?_ rfl
      exact list_slice (kp _ _ ho) hc hdt (hr.map fun b o hx e => ⟨hx, kp b o e⟩) hl x4 ⟨_, Heap.get?_push_size _ rfl, rfl, rfl⟩ pl pu fin
  all_goals exact nos hc

theorem evs_star {a : Expr} {args : List Expr} {vs : List V} (h2 : evs T G n nm (a :: args) ρ σ = some (vs, σ')) (env : Env) (p : Pos) : starEach (a :: args) env = (false, eval a env) :: starEach args env ∧ (backTo p (starEach args env)).any (·.1) = false := by
  cases n with
  | zero => exact nos h2
  | succ n => exact evs_one h2 fun v1 ws e1 e2 _ => ⟨ev_star e1 args env, evs_plain e2 env p⟩

theorem arm_call (TO : TabOK W k T) (EO : EvOK W) (IH : EvS W T G k n) (IHs : EvsS W T G k n) {f : Expr} {a : Expr} {args : List Expr} {p : Pos}
    (he : ∀ env, eval (.Call f (a :: args) [] p) env = (do callWith p (← eval f env) [] (backTo p (starEach (a :: args) env)) (backToKw p (keywordEach [] env))))
    {fv : V} {σ₁ σ₂ : Nat} {vs : List V} (h : callV T vs σ₂ fv = some (v, σ'))
    (h1 : ev T G n nm f ρ σ = some (fv, σ₁)) (h2 : evs T G n nm (a :: args) ρ σ₁ = some (vs, σ₂))
    (O : EnvOK W nm env) (R : Room k A) (S : St W X nm env ρ σ s.heap) (P : PostV W X σ' v s Q) : wpAny (model W.prog W.w) A (eval (.Call f (a :: args) [] p) env) Q E s := by
  refine Call_ (IH nm f ρ σ _ _ h1 env A X E s _ O R S fun uf h' tk g i r1 => ?_) (he env)
  have S1 := S.gr O g i
  have hst := evs_star h2 env p
  induction fv using V.casesOn
  case fn x =>
    obtain rfl : uf = W.fv x := r1
    refine TO.cw x vs σ₂ _ h A E _ env p a args [] Q hst.1 hst.2 (IHs nm _ ρ _ _ _ h2 env A X E _ p _ O R S1 fun us h2' tk2 g2 i2 r2 => ?_)
    exact ⟨i2.base, TO.call x vs σ₂ v σ' h A R X E _ us Q (S1.gr O g2 i2).x i2 r2 (PostV.after (s := { s with heap := h', toks := tk }) (PostV.after P g) g2)⟩
  case meth k9 rels m =>
    refine ifS h fun hm h => ?_
    obtain ⟨q, b, rfl, hq, hqo, hE⟩ := r1
    refine EO.cwM A X E _ env p a args q b m k9 rels Q hm i.base hqo hE hst.1 hst.2 (IHs nm _ ρ _ _ _ h2 env A X E _ p _ O R S1 fun us h2' tk2 g2 i2 r2 => ?_)
    have S2 := S1.gr O g2 i2
    refine ⟨i2.base, g2 q _ (fun e => hq (e ▸ S1.x.fd)) hqo, ?_⟩
    have rE : RepV W X h2' (.ref b) (.ev k9 rels) := RepV.gr S1.x g2 (show RepV W X h' (.ref b) (.ev k9 rels) from ⟨b, rfl, hE⟩)
    exact TO.code m (.ev k9 rels :: vs) σ₂ v σ' hm h A R X E _ (.ref b :: us) Q S2.x i2 (.cons rE r2) (PostV.after (s := { s with heap := h', toks := tk }) (PostV.after P g) g2)
  all_goals exact nos h

theorem eval_method {x m : Str} {px q p : Pos} {a : Expr} {args : List Expr} {env : Env} (hl : (q.endLine == p.line) = true) (hn : args.length < 20) (hp : (backTo p (starEach (a :: args) env)).any (·.1) = false) :
    eval (.Call (.Attribute (.Name x px) m q) (a :: args) [] p) env = (do
      let ov ← eval (.Name x px) env
      standAt q.atName
      let (f, first) ← holding [ov] (getMethod ov m (do return (← importBound (.Name x px) env).getD true))
      callWith p f first (backTo p (starEach (a :: args) env)) (backToKw p (keywordEach [] env))) := by
  have e0 : eval (.Call (.Attribute (.Name x px) m q) (a :: args) [] p) env = (do
    let ov ← attributeBase (.Name x px) m env (eval (.Name x px) env)
    standAt q.atName
    methodCall (.Name x px) m q p env ov ((a :: args).length + ([] : List Keyword).length) (backTo p (starEach (a :: args) env)) (backToKw p (keywordEach [] env))) := rfl
  rw [e0]
  have e1 : methodCallForm ((a :: args).length + ([] : List Keyword).length) (backTo p (starEach (a :: args) env)) (backToKw p (keywordEach [] env)) = true := by
    unfold methodCallForm
    have h1 : (backTo p (starEach (a :: args) env)).all (!·.1) = true := by
      rw [List.all_eq_true]
      rw [List.any_eq_false] at hp
      intro y hy
      simpa using hp y hy
    rw [h1]
    have h2 : backToKw p (keywordEach [] env) = [] := rfl
    rw [h2]
    simp only [List.length_cons, List.length_nil, List.all_nil, List.isEmpty_nil, Bool.and_self, Bool.true_and, if_true, decide_eq_true_eq]
    omega
  have e2 : methodCallPos true (.Name x px) env q p = pure p := by
    unfold methodCallPos
    simp [hl]
  have e3 : ∀ ov, methodCall (.Name x px) m q p env ov ((a :: args).length + ([] : List Keyword).length) (backTo p (starEach (a :: args) env)) (backToKw p (keywordEach [] env)) = (do
      let (f, first) ← holding [ov] (getMethod ov m (do return (← importBound (.Name x px) env).getD true))
      callWith p f first (backTo p (starEach (a :: args) env)) (backToKw p (keywordEach [] env))) := by
    intro ov
    unfold methodCall
    rw [e1, e2]
    rfl
  have e4 : attributeBase (.Name x px) m env (eval (.Name x px) env) = eval (.Name x px) env := rfl
  rw [e4]
  congr 1
  funext ov
  rw [e3]

theorem arm_method (TO : TabOK W k T) (EO : EvOK W) (IH : EvS W T G k n) (IHs : EvsS W T G k n) {x m : Str} {px q : Pos} {a : Expr} {args : List Expr} {p : Pos}
    {k9 : Int} {rels : List D} {σ₁ σ₂ : Nat} {vs : List V} (h1 : ev T G n nm (.Name x px) ρ σ = some (.ev k9 rels, σ₁)) (h2 : evs T G n nm (a :: args) ρ σ₁ = some (vs, σ₂)) (hm : meths.contains m = true) (hl : (q.endLine == p.line) = true) (hn : args.length < 20)
    (h : T (("Evaluator." : Str) ++ m) (.ev k9 rels :: vs) σ₂ = some (v, σ'))
    (O : EnvOK W nm env) (R : Room k A) (S : St W X nm env ρ σ s.heap) (P : PostV W X σ' v s Q) : wpAny (model W.prog W.w) A (eval (.Call (.Attribute (.Name x px) m q) (a :: args) [] p) env) Q E s := by
  refine methodCall_KW (IH nm _ ρ σ _ _ h1 env A X E s _ O R S fun uf h' tk g i r1 => ?_) (eval_method hl hn (evs_plain h2 env p))
  have S1 := S.gr O g i
  have hst := evs_star h2 env p
  obtain ⟨b, rfl, hE⟩ := r1
  refine EO.meth A X E _ b k9 rels m _ _ i.base hm hE ?_
  refine TO.cw _ _ σ₂ _ h A E _ env p a args [.ref b] Q hst.1 hst.2 (IHs nm _ ρ _ _ _ h2 env A X E _ p _ O R S1 fun us h2' tk2 g2 i2 r2 => ?_)
  have S2 := S1.gr O g2 i2
  have rE : RepV W X h2' (.ref b) (.ev k9 rels) := RepV.gr S1.x g2 (show RepV W X h' (.ref b) (.ev k9 rels) from ⟨b, rfl, hE⟩)
  exact ⟨i2.base, TO.call _ (.ev k9 rels :: vs) σ₂ v σ' h A R X E _ (.ref b :: us) Q S2.x i2 (.cons rE r2) (PostV.after (s := { s with heap := h', toks := tk }) (PostV.after P g) g2)⟩

theorem arm_attr (Wo : WdOk W) (EO : EvOK W) (IH : EvS W T G k n) {x m : Str} {q p : Pos} {k9 : Int} {rels : List D} {σ₁ : Nat} (h1 : ev T G n nm (.Name x q) ρ σ = some (.ev k9 rels, σ₁))
    (h : attrV k9 rels m σ₁ = some (v, σ'))
    (O : EnvOK W nm env) (R : Room k A) (S : St W X nm env ρ σ s.heap) (P : PostV W X σ' v s Q) : wpAny (model W.prog W.w) A (eval (.Attribute (.Name x q) m p) env) Q E s := by
  refine Attribute_name (IH nm _ ρ σ _ _ h1 env A X E s _ O R S fun uf h' tk g i r1 => ?_)
  obtain ⟨b, rfl, hE⟩ := r1
  refine ifK h (fun e h => ?_) fun _ h => ifK h (fun e h => ?_) fun _ h => ifS h fun hm h => ?_
  · rw [eq_of_beq e]
    exact EO.many A X E _ b k9 rels Q i.base hE fun t tk' => P.of h _ h' tk' g i (.int k9 t)
  · rw [eq_of_beq e]
    exact EO.inst A X E _ b k9 rels Q i.base hE fun u tk' r => P.of h _ h' tk' g i r
  · have x' := (S.gr O g i).x
    refine EO.bound A X E _ b k9 rels m Q i.base hm hE fun tk' => P.of h _ _ tk' (g.trans (Gr.of_keeps (push_keeps _ _))) (i.keeps Wo (push_keeps _ _)) ?_
    have kp := push_keeps h' (methodObj (W.fv (("Evaluator." : Str) ++ m)) (.ref b))
    have rE : RepV W X (h'.push (methodObj (W.fv (("Evaluator." : Str) ++ m)) (.ref b))) (.ref b) (.ev k9 rels) := RepV.map (fun b o hx e => ⟨hx, kp b o e⟩) (show RepV W X h' (.ref b) (.ev k9 rels) from ⟨b, rfl, hE⟩)
    obtain ⟨b', e', hE'⟩ := rE
    cases e'
    exact ⟨_, b, rfl, x'.new, Heap.get?_push_size _ rfl, hE'⟩

/-! a dict display with constant words as keys, subscripted at once -/
theorem strs_one {o : Option Expr} {r : List (Option Expr)} {ss : List Str} {P : Prop} (h : strs? (o :: r) = some ss) (k : ∀ y q p l, o = some (.Constant (.str y) q p) → strs? r = some l → ss = y :: l → P) : P :=
  bindK h fun y h1 h => bindK h fun l h2 h => bindK h1 fun e h3 h4 => bindK h4 fun c h5 h6 => by
    obtain ⟨q, p, rfl⟩ := const_inv h5
    exact k y q p l (by rw [h3, cStr_inv h6]) h2 (Option.some.inj h).symm
theorem strs_all : ∀ {ks : List (Option Expr)} {ss : List Str}, strs? ks = some ss → ks.all (·.isSome) = true ∧ ks.length = ss.length := by
  intro ks
  induction ks with
  | nil => intro ss h; cases h; exact ⟨rfl, rfl⟩
  | cons o r ih =>
    intro ss h
    refine strs_one h fun y q p l e1 e2 e3 => ?_
    obtain ⟨a, b⟩ := ih e2
    subst e1; subst e3
    exact ⟨by rw [List.all_cons, a]; rfl, by rw [List.length_cons, List.length_cons, b]⟩

theorem evs_length : ∀ {n : Nat} {es : List Expr} {vs : List V} {σ σ' : Nat}, evs T G n nm es ρ σ = some (vs, σ') → vs.length = es.length := by
  intro n
  induction n with
  | zero => intro es vs σ σ' h; exact nos h
  | succ n ih =>
    intro es vs σ σ' h
    cases es with
    | nil => exact pairK h fun e _ => by rw [← e]; rfl
    | cons e es => exact evs_one h fun v ws h1 h2 e3 => by rw [e3, List.length_cons, List.length_cons, ih h2]
theorem plain_length : ∀ {vs : List V} {ds : List D}, Rho.plain? vs = some ds → ds.length = vs.length := by
  intro vs
  induction vs with
  | nil => intro ds h; cases h; rfl
  | cons v vs ih =>
    intro ds h
    exact bindK h fun x h1 h => bindK h fun l h2 h => by cases h; rw [List.length_cons, List.length_cons, ih h2]

theorem pairs_ok (IHm : ∀ m, m < n → EvS W T G k m) : ∀ {m : Nat} (_ : m ≤ n) {ks : List (Option Expr)} {vs : List Expr} {ss : List Str} {xs : List V} {σ σ' : Nat} {s : Shared} {pos : Pos} {Q : List (Value × Value) → Shared → Prop}, strs? ks = some ss → ks.length = vs.length → evs T G m nm vs ρ σ = some (xs, σ') →
    EnvOK W nm env → Room k A → St W X nm env ρ σ s.heap →
    (∀ ps us h' tk, Gr W s.heap h' → Inv W σ' h' → RepVs W X h' us xs → Carries (PySem.strKind W.prog W.w) ps (ss.zip us) → Q ps { s with heap := h', toks := tk }) →
    wpAny (model W.prog W.w) A (evalPairs (pairTrees ks vs env pos)) Q E s := by
  intro m
  induction m with
  | zero => intro _ ks vs ss xs σ σ' s pos Q _ _ h; exact nos h
  | succ m ih =>
    intro hm ks vs ss xs σ σ' s pos Q hs hl h O R S hQ
    cases vs with
    | nil =>
      cases ks with
      | cons _ _ => exact nomatch hl
      | nil =>
        cases h
        cases hs
        exact pairTrees_nil_walk (hQ [] [] s.heap s.toks Gr.refl S.i .nil trivial)
    | cons e es =>
      cases ks with
      | nil => exact nomatch hl
      | cons o r =>
        refine evs_one h fun v ws h1 h2 e3 => strs_one hs fun y q p l e4 hl' e5 => ?_
        subst e3; subst e4; subst e5
        refine pairTrees_cons_walk (wpAny_Constant_str ?_)
        refine IHm m (by omega) nm e ρ σ _ _ h1 env A X E { s with toks := s.toks + 1 } _ O R S fun u h' tk g i r1 => ?_
        refine ih (by omega) hl' (Nat.succ.inj hl) h2 O R (S.gr O g i) fun ps us h'' tk' g' i' r2 c => ?_
        exact hQ _ (u :: us) h'' tk' (g.trans g') i' (.cons (r1.gr (S.gr O g i).x g') r2) ⟨by simp [PySem.strKind, Value.isStrOf], rfl, c⟩

theorem stored_new {K : Type} [DecidableEq K] : ∀ (more acc : List (K × Value)), (acc.map (·.1) ++ more.map (·.1)).Nodup → merged acc more = acc ++ more := by
  intro more
  induction more with
  | nil => intro acc _; simp [merged]
  | cons kv more ih =>
    intro acc hn
    have e : stored acc kv.1 kv.2 = acc ++ [kv] := by
      unfold stored
      rw [if_neg]
      intro q
      rw [List.any_eq_true] at q
      obtain ⟨x, hx, hk⟩ := q
      have hd := (List.nodup_append.mp hn).2.2 x.1 (List.mem_map_of_mem hx) kv.1 (by simp)
      exact hd (by simpa using hk)
    show List.foldl _ _ _ = _
    rw [List.foldl_cons, e]
    have := ih (acc ++ [kv]) (by simpa [List.append_assoc] using hn)
    unfold merged at this
    rw [this]
    simp

theorem zip_valueAt {ss : List Str} {x : Str} {d : D} : ∀ {us : List Value} {ds : List D}, Reps X s.heap us ds → (ss.zip ds).lookup x = some d → ∃ u, valueAt (ss.zip us) x = some u ∧ Rep X s.heap u d := by
  induction ss with
  | nil => intro us ds _ h; simp at h
  | cons y ss ih =>
    intro us ds r h
    cases r with
    | nil => simp at h
    | @cons u us d' ds h1 r =>
      simp only [List.zip_cons_cons, List.lookup_cons] at h
      unfold valueAt
      simp only [List.zip_cons_cons, List.find?_cons]
      by_cases q : y = x
      · subst q
        simp only [beq_self_eq_true, Option.some.injEq] at h
        subst h
        exact ⟨u, by simp, h1⟩
      · have e : (x == y) = false := beq_eq_false_iff_ne.mpr (Ne.symm q)
        rw [e] at h
        simp only [q, decide_false]
        exact ih r h
end
end Mine

end

section
open PySem PySem.W PySem.Calls PyProof.Rows PySem.Spec
namespace Mine

section
variable {W : Wd} {X Y : Addr → Prop} {nm : Names} {env : Env} {h h' : Heap} {ρ : Rho} {σ σ' : Nat}
/-- an object that no frame owns has turned -/
theorem St.but (Wo : WdOk W) {a : Addr} (S : St W Y nm env ρ σ h) (hs : Heap.SameBut a h h') (ha : ∃ o, h'.get? a = some o) (hown : ∀ b, Own env b → b ≠ a) (hY : Y a) (hf : a ≠ W.fd) : St W Y nm env ρ σ h' := by
  have kp : Kp W Y h h' := fun b o hb e => (hs.2 b fun q => by
    subst q
    exact hb.elim (fun q => q hY) fun q => hf q).trans e
  refine ⟨⟨fun b hb => ?_, S.x.base, S.x.fd, S.x.cl⟩, S.i.kp Wo S.x kp, S.l.map (fun b o hb e => ⟨hb, kp b o (.inl hb) e⟩) (fun b o hb e => (hs.2 b (hown b hb)).trans e) S.l.own⟩
  by_cases q : b = a
  · exact q ▸ ha
  · obtain ⟨o, e⟩ := S.x.at_ b hb
    exact ⟨o, (hs.2 b q).trans e⟩
theorem Own.lt (S : St W X nm env ρ σ h) {b : Addr} (hb : Own env b) : b < h.objs.size := S.x.lt (S.l.own b hb)
theorem Inv.fd_lt (i : Inv W σ h) : W.fd < h.objs.size := let ⟨_, e⟩ := i.fdat; Heap.lt_size e
end

section
variable {W : Wd} {T : Tab} {G : Str → Option V} {k n : Nat} {X : Addr → Prop} {nm : Names} {env : Env} {ρ : Rho} {σ σ' : Nat} {A : Around} {E : Value → Shared → Prop} {s : Shared} {v : V} {Q : Value → Shared → Prop}

theorem arm_dictsub (Wo : WdOk W) (IHm : ∀ m, m ≤ n → EvS W T G k m) {ks : List (Option Expr)} {vs : List Expr} {w : Expr} {p q : Pos} {xs : List V} {x : Str} {ss : List Str} {ds : List D} {d : D} {σ₁ : Nat}
    (h1 : evs T G n nm vs ρ σ = some (xs, σ₁)) {wv : V} {wd : D} (h2 : ev T G n nm w ρ σ₁ = some (wv, σ')) (hw1 : dOf? wv = some wd) (hw2 : strD? wd = some x) (hs : strs? ks = some ss) (hp : Rho.plain? xs = some ds) (hc : ss.length = ds.length ∧ ss.length ≤ 15 ∧ ss ≠ [] ∧ ss.Nodup) (hl : (ss.zip ds).lookup x = some d)
    (O : EnvOK W nm env) (R : Room k A) (S : St W X nm env ρ σ s.heap) (P : PostV W X σ' (.d d) s Q) : wpAny (model W.prog W.w) A (eval (.Subscript (.Dict ks vs q) w p) env) Q E s := by
  obtain ⟨ha, hkl⟩ := strs_all hs
  have hlen : ks.length = vs.length := by rw [hkl, hc.1, plain_length hp, evs_length h1]
  refine Subscript_ (wpAny_Dict_walk (knd := PySem.strKind W.prog W.w) ha hlen (fun e => hc.2.2.1 (by subst e; exact (Option.some.inj hs).symm)) (by rw [hkl]; exact hc.2.1) ?_)
  have hfd := S.i.fd_lt
  have S1 : St W (fun b => X b ∨ b = s.heap.objs.size) nm env ρ σ (s.heap.push { cls := .type "dict", data := .dict #[] }) :=
    S.shut Wo (push_keeps _ _) (fun b hb => .inl hb) fun b hb => hb.imp id fun e => by subst e; exact ⟨get_end _ (Nat.le_refl _), _, Heap.get?_push_size _ rfl⟩
  refine pairs_ok (fun m hm => IHm m (Nat.le_of_lt hm)) (Nat.le_refl n) hs hlen h1 O R S1 fun ps us h' tk g i r c => ⟨ss.zip us, c, ?_, fun h'' hd hsb => ?_⟩
  · exact Heap.DictOf.at' (Heap.DictOf.new _) fun o e => g _ o (Nat.ne_of_gt hfd) e
  · have S2 := S1.gr O g i
    have hlt : h'.objs.size ≥ s.heap.objs.size := by
      obtain ⟨o, e⟩ := S2.x.at_ s.heap.objs.size (.inr rfl)
      exact Nat.le_of_lt (Heap.lt_size e)
    have hdat : ∃ o, h''.get? s.heap.objs.size = some o := by
      obtain ⟨o, _, _, e, _⟩ := hd
      exact ⟨o, e⟩
    have S3 := S2.but Wo hsb hdat (fun b hb e => by have := Own.lt S hb; rw [e] at this; exact Nat.lt_irrefl _ this) (.inr rfl) (Nat.ne_of_gt hfd)
    have hus : us.length = ss.length := by rw [(plain_reps r hp).length, hc.1]
    have hm : merged [] (ss.zip us) = ss.zip us := by
      rw [stored_new]
      · rfl
      · rw [List.map_nil, List.nil_append, ← List.unzip_fst, List.unzip_zip (by omega)]
        exact hc.2.2.2
    rw [hm] at hd
    refine IHm n (Nat.le_refl n) nm w ρ _ _ _ h2 env A _ E _ _ O R S3 fun uw h3 tk3 g3 i3 r3 => ?_
    have r3' := dOf_rep hw1 r3
    rw [strD_inv hw2] at r3'
    cases r3' with
    | str _ tx =>
      have hd3 : h3.DictOf (PySem.strKind W.prog W.w) s.heap.objs.size (ss.zip us) := Heap.DictOf.at' hd fun o e => g3 _ o (Nat.ne_of_gt hfd) e
      have kp9 : Kp W (fun b => X b ∨ b = s.heap.objs.size) h' h'' := fun b o hb e => (hsb.2 b fun q => by
        subst q
        exact hb.elim (fun q => q (.inr rfl)) fun q => absurd hfd (by rw [← q]; exact Nat.lt_irrefl _)).trans e
      have rr : Reps (fun b => X b ∨ b = s.heap.objs.size) h3 us ds := ((plain_reps r hp).kp kp9).gr S3.x g3
      obtain ⟨u, hu, ru⟩ := zip_valueAt (s := { s with heap := h3 }) rr hl
      refine tail_any (ops := [.ref s.heap.objs.size, .str x tx]) (T := "dict") (hd3.typeIs (s := { s with heap := h3, toks := tk3 })) slot_dict_getitem.lookup (wpAny_getItem_of (knd := PySem.strKind W.prog W.w) (k := x) (by simp [PySem.strKind, Value.isStrOf]) hd3.mapOf hu ?_) ?_
      · refine P u h3 _ (fun b o hb e => ?_) i3 (Rep.wide (fun b hb => .inl hb) ru)
        have hne : b ≠ s.heap.objs.size := Nat.ne_of_lt (Heap.lt_size e)
        exact g3 b o hb ((hsb.2 b hne).trans (g b o hb (push_keeps _ _ b o e)))
      · clear IHm h1 hd hd3 rr S1 S2 S3 g g3 c r r3 kp9 hsb
        cases n with
        | zero => exact nos h2
        | succ n => induction w using Expr.casesOn <;> first | rfl | exact nos h2
end
end Mine

end

section
open PySem PySem.W PySem.Calls PyProof.Rows PySem.Spec
namespace Mine

section
variable {W : Wd} {T : Tab} {G : Str → Option V} {k n : Nat} {X : Addr → Prop} {nm : Names} {env : Env} {ρ : Rho} {σ σ' : Nat} {A : Around} {E : Value → Shared → Prop} {s : Shared} {v : V} {Q : Value → Shared → Prop}

theorem none_back {h h' : Heap} (kp : ∀ b o, h.get? b = some o → h'.get? b = some o) {b : Addr} (q : h'.get? b = none) : h.get? b = none := by
  cases e : h.get? b with
  | none => rfl
  | some o => rw [kp b o e] at q; cases q
theorem none_gr {h h' : Heap} (g : Gr W h h') (i : Inv W σ' h') {b : Addr} (q : h'.get? b = none) : h.get? b = none := by
  cases e : h.get? b with
  | none => rfl
  | some o =>
    by_cases hb : b = W.fd
    · obtain ⟨o', e'⟩ := i.fdat
      rw [hb, e'] at q; cases q
    · rw [g b o hb e] at q; cases q

noncomputable def IterQ (W : Wd) (A : Around) (X : Addr → Prop) (target : Expr) (ds : List D) (σ' : Nat) (s : Shared) (Q : Value → Shared → Prop) : Prop :=
  ∀ (I : Addr) (N : Addr → Prop) h' tk, (∀ Y : Addr → Prop, (∀ b, X b ∨ N b → Y b) → (∀ b, Y b → X b ∨ N b ∨ h'.get? b = none) → ∃ Stt Md, Itr W A Y target I N ds Stt Md ∧ Stt 0 h') →
    (∀ b, N b → s.heap.get? b = none ∧ ∃ o, h'.get? b = some o) → Gr W s.heap h' → Inv W σ' h' → Q (.ref I) { s with heap := h', toks := tk }

theorem reps_items {Y : Addr → Prop} {h h' : Heap} {items : Array Value} {ds : List D} (hr : Reps X h items.toList ds) (kp : ∀ b o, h.get? b = some o → h'.get? b = some o) (hY : ∀ b, Y b → X b ∨ h.get? b = none) :
    ∀ (j : Nat) v d, items[j]? = some v → ds[j]? = some d → Rep Y h' v d := by
  intro j v d hv hd
  obtain ⟨d', hd', r⟩ := hr.get' (i := j) (v := v) (by simpa using hv)
  rw [hd] at hd'
  cases hd'
  exact r.map fun b o hx e => ⟨fun q => (hY b q).elim hx (fun q => absurd (q.symm.trans e) (by simp)), kp b o e⟩

theorem iter_value (Wo : WdOk W) (hh : A.handled = none) {target : Expr} {ds : List D} {u : Value} (hv : iterV v = some ds) (i : Inv W σ s.heap) (r : RepV W X s.heap u v) (P : IterQ W A X target ds σ s Q) : wpAny (model W.prog W.w) A (pyIter u) Q E s := by
  refine bindK hv fun x h1 hv => ?_
  have r' := dOf_rep h1 r
  clear r h1
  induction x using D.casesOn
  case tup ds' =>
    obtain rfl : ds = ds' := (Option.some.inj hv).symm
    cases r' with
    | @tup a o vs n9 _ hx ho hc hdt hr hl =>
      have ht : s.heap.IsTuple a vs := ⟨o, ho, hc, n9, hdt⟩
      refine wpAny_pyIter_tuple ht (P s.heap.objs.size (fun b => b = s.heap.objs.size) _ s.toks (fun Y h1 h2 => ?_) (fun b hb => by subst hb; exact ⟨get_end _ (Nat.le_refl _), _, Heap.get?_push_size _ rfl⟩) (Gr.of_keeps (push_keeps _ _)) (i.keeps Wo (push_keeps _ _)))
      have hY : ∀ b, Y b → X b ∨ s.heap.get? b = none := fun b hb => (h2 b hb).elim .inl fun q => .inr (q.elim (fun q => get_end _ (Nat.le_of_eq q.symm)) fun q => none_back (push_keeps _ _) q)
      have hax : ¬ Y a := fun q => (hY a q).elim hx fun q => by rw [ho] at q; cases q
      obtain ⟨Md, M⟩ := itr_tup (W := W) (A := A) (X := Y) (target := target) (I := s.heap.objs.size) (ax := a) (items := vs) (ds := ds) hh (h1 _ (.inr rfl)) hax (by simpa using hr.length)
      exact ⟨_, Md, M, ⟨⟨_, Heap.get?_push_size _ rfl, rfl, rfl⟩, ht.at (push_keeps _ _ a)⟩, reps_items hr (push_keeps _ _) hY⟩
  case list ds' =>
    obtain rfl : ds = ds' := (Option.some.inj hv).symm
    cases r' with
    | @list a o vs n9 _ hx ho hc hdt hdn hr hl =>
      have ht : s.heap.IsList a vs := ⟨o, ho, hc, n9, hdt⟩
      refine wpAny_pyIter_list ht (P s.heap.objs.size (fun b => b = s.heap.objs.size) _ s.toks (fun Y h1 h2 => ?_) (fun b hb => by subst hb; exact ⟨get_end _ (Nat.le_refl _), _, Heap.get?_push_size _ rfl⟩) (Gr.of_keeps (push_keeps _ _)) (i.keeps Wo (push_keeps _ _)))
      have hY : ∀ b, Y b → X b ∨ s.heap.get? b = none := fun b hb => (h2 b hb).elim .inl fun q => .inr (q.elim (fun q => get_end _ (Nat.le_of_eq q.symm)) fun q => none_back (push_keeps _ _) q)
      have hax : ¬ Y a := fun q => (hY a q).elim hx fun q => by rw [ho] at q; cases q
      obtain ⟨Md, M⟩ := itr_list (W := W) (A := A) (X := Y) (target := target) (I := s.heap.objs.size) (ax := a) (items := vs) (ds := ds) hh (h1 _ (.inr rfl)) hax (by simpa using hr.length)
      exact ⟨_, Md, M, ⟨⟨_, Heap.get?_push_size _ rfl, rfl, rfl⟩, ht.at (push_keeps _ _ a)⟩, reps_items hr (push_keeps _ _) hY⟩
  all_goals exact nos hv

theorem iter_enum (Wo : WdOk W) (hh : A.handled = none) {es : List Expr} {k9 : Nat} {p : Pos} {ds : List D} {u : Value} (hv : iterV v = some ds) (i : Inv W σ s.heap) (r : RepV W X s.heap u v)
    (P : IterQ W A X (.Tuple es k9 p) (ds.zipIdx.map fun p => D.tup [.int p.2, p.1]) σ s Q) : wpAny (model W.prog W.w) A (call (.type "enumerate") [u]) (fun x s₁ => wpAny (model W.prog W.w) A (pyIter x) Q E s₁) E s := by
  refine bindK hv fun x h1 hv => ?_
  have r' := dOf_rep h1 r
  clear r h1
  induction x using D.casesOn
  case tup ds' =>
    obtain rfl : ds = ds' := (Option.some.inj hv).symm
    cases r' with
    | @tup a o vs n9 _ hx ho hc hdt hr hl =>
      have ht : s.heap.IsTuple a vs := ⟨o, ho, hc, n9, hdt⟩
      refine call_enumerate_tuple ht fun h' he hit hsz kp => wpAny_pyIter_enum he ?_
      refine P (s.heap.objs.size + 1) (fun b => b = s.heap.objs.size + 1 ∨ b = s.heap.objs.size) h' s.toks (fun Y h1 h2 => ?_) (fun b hb => ?_) (Gr.of_keeps kp) (i.keeps Wo kp)
      · have hY : ∀ b, Y b → X b ∨ s.heap.get? b = none := fun b hb => (h2 b hb).elim .inl fun q => .inr (by rcases q with (q | q) | q; exact get_end _ (by rw [q]; omega); exact get_end _ (by rw [q]; omega); exact none_back kp q)
        have hax : ¬ Y a := fun q => (hY a q).elim hx fun q => by rw [ho] at q; cases q
        have hne : a ≠ s.heap.objs.size := Nat.ne_of_lt (Heap.lt_size ho)
        have D9 := draws_tuple (prog := W.prog) (w := W.w) (A := A.in1) hh s.heap.objs.size a hne vs
        have hl9 : vs.size = ds.length := by simpa using hr.length
        rw [hl9] at D9
        obtain ⟨Md, M⟩ := itr_enum (W := W) (A := A) (X := Y) (items := vs) (elts := es) (k := k9) (pos := p) (e := s.heap.objs.size + 1) (ds := ds) D9 (fun i h st => let ⟨o, ho, _⟩ := st.1; ⟨o, ho⟩) (Nat.succ_ne_self _) (h1 _ (.inr (.inl rfl))) (h1 _ (.inr (.inr rfl))) hax
        exact ⟨_, Md, M, ⟨⟨_, he⟩, hit, ht.at (kp a)⟩, reps_items hr kp hY⟩
      · rcases hb with rfl | rfl
        · exact ⟨get_end _ (by omega), _, he⟩
        · obtain ⟨o, ho, _⟩ := hit
          exact ⟨get_end _ (Nat.le_refl _), o, ho⟩
  case list ds' =>
    obtain rfl : ds = ds' := (Option.some.inj hv).symm
    cases r' with
    | @list a o vs n9 _ hx ho hc hdt hdn hr hl =>
      have ht : s.heap.IsList a vs := ⟨o, ho, hc, n9, hdt⟩
      refine call_enumerate_list ht fun h' he hit hsz kp => wpAny_pyIter_enum he ?_
      refine P (s.heap.objs.size + 1) (fun b => b = s.heap.objs.size + 1 ∨ b = s.heap.objs.size) h' s.toks (fun Y h1 h2 => ?_) (fun b hb => ?_) (Gr.of_keeps kp) (i.keeps Wo kp)
      · have hY : ∀ b, Y b → X b ∨ s.heap.get? b = none := fun b hb => (h2 b hb).elim .inl fun q => .inr (by rcases q with (q | q) | q; exact get_end _ (by rw [q]; omega); exact get_end _ (by rw [q]; omega); exact none_back kp q)
        have hax : ¬ Y a := fun q => (hY a q).elim hx fun q => by rw [ho] at q; cases q
        have hne : a ≠ s.heap.objs.size := Nat.ne_of_lt (Heap.lt_size ho)
        have D9 := Draws.list (prog := W.prog) (w := W.w) (A := A.in1) hh s.heap.objs.size a hne vs
        have hl9 : vs.size = ds.length := by simpa using hr.length
        rw [hl9] at D9
        obtain ⟨Md, M⟩ := itr_enum (W := W) (A := A) (X := Y) (items := vs) (elts := es) (k := k9) (pos := p) (e := s.heap.objs.size + 1) (ds := ds) D9 (fun i h st => let ⟨o, ho, _⟩ := st.1; ⟨o, ho⟩) (Nat.succ_ne_self _) (h1 _ (.inr (.inl rfl))) (h1 _ (.inr (.inr rfl))) hax
        exact ⟨_, Md, M, ⟨⟨_, he⟩, hit, ht.at (kp a)⟩, reps_items hr kp hY⟩
      · rcases hb with rfl | rfl
        · exact ⟨get_end _ (by omega), _, he⟩
        · obtain ⟨o, ho, _⟩ := hit
          exact ⟨get_end _ (Nat.le_refl _), o, ho⟩
  all_goals exact nos hv

theorem IterQ.after {target : Expr} {ds : List D} {h' : Heap} {tk : Nat} (P : IterQ W A X target ds σ' s Q) (g : Gr W s.heap h') (i : Inv W σ h') : IterQ W A X target ds σ' { s with heap := h', toks := tk } Q :=
  fun I N h'' tk' f1 f2 g' i' => P I N h'' tk' f1 (fun b hb => ⟨none_gr g i (f2 b hb).1, (f2 b hb).2⟩) (g.trans g') i'

theorem iter_range (Wo : WdOk W) (hh : A.handled = none) {target : Expr} {j : Int} {t : Tok} (hj : 0 ≤ j ∧ j < 1000) (i : Inv W σ s.heap)
    (P : IterQ W A X target ((List.range j.toNat).map fun (i : Nat) => D.int i) σ s Q) : wpAny (model W.prog W.w) A (call (.type "range") [.int j t]) (fun x s₁ => wpAny (model W.prog W.w) A (pyIter x) Q E s₁) E s := by
  refine call_range_1 ?_
  refine wpAny_pyIter_range (IsRange.new _ 0 j 1 _ _ _) (small_one (by decide) (by decide) (by omega) (by omega)) ?_
  have hsz : Builtin.Range.rangeSize 0 j 1 = ((j.toNat : Nat) : Int) := by
    rw [rangeSize_one]; split <;> omega
  have kp : ∀ b o, s.heap.get? b = some o → ((s.heap.push { cls := .type "range", data := .fields #[.int 0 s.toks, .int j t, .int 1 (s.toks + 1)] }).push { cls := .type "range_iterator", data := .fields #[rawInt 0, rawInt (Builtin.Range.rangeSize 0 j 1), rawInt 1] }).get? b = some o :=
    fun b o e => push_keeps _ _ b o (push_keeps _ _ b o e)
  have hz : (s.heap.push { cls := .type "range", data := .fields #[.int 0 s.toks, .int j t, .int 1 (s.toks + 1)] }).objs.size = s.heap.objs.size + 1 := Heap.size_push ..
  refine P _ (fun b => b = (s.heap.push { cls := .type "range", data := .fields #[.int 0 s.toks, .int j t, .int 1 (s.toks + 1)] }).objs.size) _ _ (fun Y h1 h2 => ?_) (fun b hb => ?_) (Gr.of_keeps kp) (i.keeps Wo kp)
  · obtain ⟨Md, M⟩ := itr_range (W := W) (A := A) (X := Y) (target := target) (n := j.toNat) hh (h1 _ (.inr rfl))
    refine ⟨_, Md, M, ?_, range_rep⟩
    have e0 : (0 + ((0 : Nat) : Int) * 1) = 0 := by simp
    have e1 : (((j.toNat : Nat) : Int) - ((0 : Nat) : Int)) = Builtin.Range.rangeSize 0 j 1 := by rw [hsz]; simp
    rw [e0, e1]
    exact Heap.get?_push_size _ rfl
  · subst hb
    exact ⟨get_end _ (by omega), _, Heap.get?_push_size _ rfl⟩

theorem evI_fold {t e : Expr} {ds : List D} (h : evI T G n nm t e ρ σ = some (ds, σ')) (env : Env) (x : Value) : foldedSetIterable e env x = pure x := by
  cases n with
  | zero => exact nos h
  | succ n => induction e using Expr.casesOn <;> first | rfl | (cases n <;> exact nos h)

theorem evI_value (Wo : WdOk W) (IH : EvS W T G k n) {target e : Expr} {ds : List D} (h : (ev T G n nm e ρ σ).bind (fun x => (iterV x.1).bind fun ds => some (ds, x.2)) = some (ds, σ')) (O : EnvOK W nm env) (R : Room k A) (S : St W X nm env ρ σ s.heap)
    (P : IterQ W A X target ds σ' s Q) : wpAny (model W.prog W.w) A (eval e env) (fun x s₁ => wpAny (model W.prog W.w) A (pyIter x) Q E s₁) E s :=
  bindK h fun v h1 h => bindK h fun ds' h2 h => pairK h fun e1 e2 => by
    subst e1; subst e2
    exact IH nm e ρ σ _ _ h1 env A X E s _ O R S fun u h' tk g i r => iter_value (s := { s with heap := h', toks := tk }) Wo R.1 h2 i r (P.after g i)

theorem grp_get {h : Heap} {kvs : List (Int × Value)} {g : List (Int × List D)} {d0 : Value} (rd : Rep X h d0 (.list [])) (hG : GrpAt X h kvs g) (i : Int) : Rep X h ((valueAt kvs i).getD d0) (.list ((g.lookup i).getD [])) := by
  induction hG with
  | nil => exact rd
  | @cons j v ds kvs g h1 _ ih =>
    unfold valueAt at ih ⊢
    simp only [List.find?_cons, List.lookup_cons]
    by_cases q : j = i
    · subst q
      simp only [decide_true, beq_self_eq_true, Option.map_some, Option.getD_some]
      exact h1
    · have e : (i == j) = false := beq_eq_false_iff_ne.mpr (Ne.symm q)
      simp only [q, decide_false, e]
      exact ih

theorem evI_range (Wo : WdOk W) (IH : EvS W T G k n) {target a f : Expr} {p : Pos} {ds : List D} {σ₀ : Nat} {fv : V} (h0 : ev T G n nm f ρ σ = some (fv, σ₀)) (hf : fnOf? fv = some "range")
    (he : ∀ env, eval (.Call f [a] [] p) env = (do callWith p (← eval f env) [] (backTo p (starEach [a] env)) (backToKw p (keywordEach [] env))))
    (h : ((ev T G n nm a ρ σ₀).bind fun v => (dOf? v.1).bind fun x => (intD? x).bind fun i => if 0 ≤ i ∧ i < 1000 then some ((List.range i.toNat).map fun (i : Nat) => D.int i, v.2) else none) = some (ds, σ')) (O : EnvOK W nm env) (R : Room k A) (S : St W X nm env ρ σ s.heap)
    (P : IterQ W A X target ds σ' s Q) : wpAny (model W.prog W.w) A (eval (.Call f [a] [] p) env) (fun x s₁ => wpAny (model W.prog W.w) A (pyIter x) Q E s₁) E s := by
  refine bindK h fun v h1 h => bindK h fun x h2 h => bindK h fun j h3 h => ifS h fun hj h => pairK h fun e1 e2 => ?_
  subst e1; subst e2
  refine Call_ (IH nm _ ρ σ _ _ h0 env A X E s _ O R S fun uf h' tk gr i r => ?_) (he env)
  rw [fnOf_inv hf] at r
  obtain rfl : uf = W.fv "range" := r
  rw [Wo.fvr]
  refine callWith_type1 (args_cons (IH nm a ρ _ _ _ h1 env A X E _ _ O R (S.gr O gr i) fun u h2' tk2 g2 i2 r2 => args_nil ?_) (ev_star h1 [] env)) (ev_star h1 [] env) rfl
  obtain ⟨t, rfl⟩ := int_rep h2 h3 r2
  exact iter_range (s := { s with heap := h2', toks := tk2 }) Wo R.1 hj i2 (IterQ.after (s := s) P (gr.trans g2) i2)

theorem evI_enum (Wo : WdOk W) (IH : EvS W T G k n) {a f : Expr} {p p9 : Pos} {es : List Expr} {k9 : Nat} {ds : List D} {σ₀ : Nat} {fv : V} (h0 : ev T G n nm f ρ σ = some (fv, σ₀)) (hf : fnOf? fv = some "enumerate")
    (he : ∀ env, eval (.Call f [a] [] p) env = (do callWith p (← eval f env) [] (backTo p (starEach [a] env)) (backToKw p (keywordEach [] env))))
    (h : ((ev T G n nm a ρ σ₀).bind fun v => (iterV v.1).bind fun ds => some (ds.zipIdx.map fun p => D.tup [.int p.2, p.1], v.2)) = some (ds, σ')) (O : EnvOK W nm env) (R : Room k A) (S : St W X nm env ρ σ s.heap)
    (P : IterQ W A X (.Tuple es k9 p9) ds σ' s Q) : wpAny (model W.prog W.w) A (eval (.Call f [a] [] p) env) (fun x s₁ => wpAny (model W.prog W.w) A (pyIter x) Q E s₁) E s := by
  refine bindK h fun v h1 h => bindK h fun ds' h2 h => pairK h fun e1 e2 => ?_
  subst e1; subst e2
  refine Call_ (IH nm _ ρ σ _ _ h0 env A X E s _ O R S fun uf h' tk gr i r => ?_) (he env)
  rw [fnOf_inv hf] at r
  obtain rfl : uf = W.fv "enumerate" := r
  rw [Wo.fve]
  refine callWith_type1 (args_cons (IH nm a ρ _ _ _ h1 env A X E _ _ O R (S.gr O gr i) fun u h2' tk2 g2 i2 r2 => args_nil ?_) (ev_star h1 [] env)) (ev_star h1 [] env) rfl
  exact iter_enum (s := { s with heap := h2', toks := tk2 }) Wo R.1 h2 i2 r2 (IterQ.after (s := s) P (gr.trans g2) i2)

theorem evI_get (Wo : WdOk W) (IH : EvS W T G k n) {target a : Expr} {x : Str} {px q p lp : Pos} {ds : List D} (hc : (q.endLine == p.line) = true)
    (h : ((ev T G n nm (.Name x px) ρ σ).bind fun y => (grpOf? y.1).bind fun g => (ev T G n nm a ρ y.2).bind fun z => (dOf? z.1).bind fun d => (intD? d).bind fun i => some ((g.lookup i).getD [], z.2)) = some (ds, σ')) (O : EnvOK W nm env) (R : Room k A) (S : St W X nm env ρ σ s.heap)
    (P : IterQ W A X target ds σ' s Q) : wpAny (model W.prog W.w) A (eval (.Call (.Attribute (.Name x px) "get" q) [a, .List [] lp] [] p) env) (fun x s₁ => wpAny (model W.prog W.w) A (pyIter x) Q E s₁) E s := by
  refine bindK h fun y h1 h => bindK h fun g hg h => bindK h fun z h2 h => bindK h fun d hd h => bindK h fun i0 hi h => pairK h fun e1 e2 => ?_
  subst e1; subst e2
  have hst : starEach [a, .List [] lp] env = [(false, eval a env), (false, eval (.List [] lp) env)] := by
    rw [ev_star h2]; rfl
  have hpl : (backTo p (starEach [a, .List [] lp] env)).any (·.1) = false := by rw [hst]; rfl
  refine methodCall_KW (IH nm _ ρ σ _ _ h1 env A X E s _ O R S fun uf h' tk gr i r => ?_) (eval_method hc (by show 1 < 20; decide) hpl)
  rw [grpOf_inv hg] at r
  obtain ⟨b, kvs, rfl, hx, hsys, hD, hG⟩ := r
  have S1 := S.gr O gr i
  refine getMethod_builtin (hD.typeIs (s := { s with heap := h', toks := tk })) PySem.F.plainAttrs_dict PySem.F.slot_dict_get PySem.F.type_dict_get hD.mapOf.noDict ?_
  rw [hst]
  refine wpAny_dict_get2 (knd := intKey W) hsys (IH nm a ρ _ _ _ h2 env A X E _ _ O R S1 fun uk h2' tk2 g2 i2 r2 => ?_)
  refine wpAny_List (args_nil ⟨Nat.zero_le _, ?_⟩)
  have S2 := S1.gr O g2 i2
  have kp := push_keeps h2' { cls := .type "list", data := .seq ([] : List Value).toArray }
  have hne : b ≠ W.fd := fun q => hx (q ▸ S.x.fd)
  have hD2 : (h2'.push { cls := .type "list", data := .seq ([] : List Value).toArray }).DictOf (intKey W) b kvs := Heap.DictOf.at' hD fun o e => kp b o (g2 b o hne e)
  have hG2 : GrpAt X (h2'.push { cls := .type "list", data := .seq ([] : List Value).toArray }) kvs g := hG.map fun c o hc e => ⟨hc, kp c o (g2 c o (fun q => hc (q ▸ S.x.fd)) e)⟩
  have rd : Rep X (h2'.push { cls := .type "list", data := .seq ([] : List Value).toArray }) (.ref h2'.objs.size) (.list []) := Rep.newList (n := 0) S2.x.new (Heap.get?_push_size _ rfl) kp .nil (by decide)
  obtain ⟨t, rfl⟩ := int_rep hd hi r2
  refine ⟨i0, _, by simp [PySem.intKind, Value.isInt], hD2.mapOf, ?_⟩
  have gfin : Gr W s.heap (h2'.push { cls := .type "list", data := .seq ([] : List Value).toArray }) := (gr.trans g2).trans (Gr.of_keeps kp)
  exact iter_value (v := .d (.list ((g.lookup i0).getD []))) (s := { s with heap := h2'.push { cls := .type "list", data := .seq ([] : List Value).toArray }, toks := _ }) Wo R.1 rfl (i2.keeps Wo kp) (grp_get rd hG2 i0) (IterQ.after (s := s) P gfin (i2.keeps Wo kp))

theorem isTup_inv {t : Expr} (h : isTup t = true) : ∃ es k9 p9, t = .Tuple es k9 p9 := by
  induction t using Expr.casesOn <;> first | exact fls h | exact ⟨_, _, _, rfl⟩

theorem evI_sound (Wo : WdOk W) (IH : EvS W T G k n) : EvIS W T G k (n + 1) := by
  intro nm target e ρ σ ds σ' h env A X E s Q O R S P
  refine ocK h (fun _ h => evI_value Wo IH h O R S P) fun c hc h => ?_
  rw [call_inv hc]
  rw [call_inv hc] at h
  obtain ⟨f, args, kws, p⟩ := c
  refine ocK h (fun ha h => ocK h (fun _ h => evI_value Wo IH h O R S P) fun a h1 h => bindK h fun _ hk h => bindK h fun g hg h => bindK h fun fv h0 h => bindK h fun x hx h => ?_) fun omq ha h => bindK h fun _ hk h => bindK h fun x hx h => bindK h fun ab h2 h => bindK h fun l hl h => bindK h fun _ hn h => condS h fun hm h => andK hm fun hm hc => ?_
  · dsimp only at hg hk h1
    rw [one_inv h1, nil_inv hk, name_inv hg]
    rw [one_inv h1, nil_inv hk, name_inv hg] at h
    refine condK h (fun q h => ?_) fun _ h => condK h (fun q h9 => andK q fun q qt => ?_) fun _ h => evI_value Wo IH h O R S P
    · rw [eq_of_beq q] at hx
      exact evI_range Wo IH h0 hx (fun _ => rfl) h O R S P
    · rw [eq_of_beq q] at hx
      obtain ⟨es, k9, p9, rfl⟩ := isTup_inv qt
      exact evI_enum Wo IH h0 hx (fun _ => rfl) h9 O R S P
  · dsimp only at ha h2 hk hm hc
    rw [attr_inv ha, name_inv hx, two_inv h2, list_inv hl, nil_inv hn, nil_inv hk, eq_of_beq hm]
    exact evI_get Wo IH hc h O R S P
end
end Mine

end

section
open PySem PySem.W PySem.Calls PyProof.Rows PySem.Spec
namespace Mine

section
variable {W : Wd} {X Y N : Addr → Prop} {nm : Names} {env : Env} {h h' : Heap} {ρ ρ₁ : Rho} {σ σ' : Nat}

theorem fresh_set {ρ₀ ρ : Rho} {e : Expr} {x : Str × Pos} {v : V} (h1 : name? e = some x) (hf : freshN ρ₀ e = true) (hk : ∀ y w, ρ₀.lookup y = some w → ρ.lookup y = some w) : ∀ y w, ρ₀.lookup y = some w → (setName ρ x.1 v).lookup y = some w := by
  intro y w hy
  rw [lookup_set]
  unfold freshN at hf
  rw [h1] at hf
  have hf := isN_inv (o := ρ₀.lookup x.1) hf
  by_cases q : y = x.1
  · rw [q, hf] at hy; exact nos hy
  · rw [if_neg q]; exact hk y w hy
theorem bindAll_fresh : ∀ {es : List Expr} {ds : List D} {ρ₀ ρ ρ₁ : Rho}, bindAll nm es ds ρ = some ρ₁ → es.all (freshN ρ₀) = true →
    (∀ y w, ρ₀.lookup y = some w → ρ.lookup y = some w) → ∀ y w, ρ₀.lookup y = some w → ρ₁.lookup y = some w := by
  intro es
  induction es with
  | nil =>
    intro ds ρ₀ ρ ρ₁ hb _ hk
    exact bindK hb fun _ _ h => by obtain rfl := Option.some.inj h; exact hk
  | cons e es ih =>
    intro ds ρ₀ ρ ρ₁ hb hf hk
    refine bindK hb fun x h1 h => bindK h fun d h2 h => condS h fun _ h => andK hf fun hf1 hf2 => ?_
    exact ih h hf2 (fresh_set h1 hf1 hk)
theorem bindT_fresh {t : Expr} {d : D} (hb : bindT nm t d ρ = some ρ₁) (hf : freshT t ρ = true) : ∀ y w, ρ.lookup y = some w → ρ₁.lookup y = some w := by
  unfold freshT at hf
  refine ocK hb (fun ht hb => bindK hb fun x h1 hb => condS hb fun _ hb => ?_) fun tt ht hb => bindK hb fun ds _ hb => ?_
  · rw [ht] at hf
    obtain rfl := Option.some.inj hb
    exact fresh_set h1 hf fun _ _ h => h
  · rw [ht] at hf
    exact bindAll_fresh hb hf fun _ _ h => h
theorem iterD_inv {d : D} {ds : List D} (h : iterD d = some ds) : (∃ l, d = .tup l) ∨ ∃ l, d = .list l := by
  induction d using D.casesOn
  case tup => exact .inl ⟨_, rfl⟩
  case list => exact .inr ⟨_, rfl⟩
  all_goals exact nos h
theorem bindT_tup {t : Expr} {d : D} (hb : bindT nm t d ρ = some ρ₁) : ∀ es k p, t = .Tuple es k p → (∃ l, d = .tup l) ∨ ∃ l, d = .list l := by
  rintro es k p rfl
  exact bindK hb fun ds h1 _ => iterD_inv h1

/-- an iterator has turned -/
theorem St.turn (Wo : WdOk W) (S : St W Y nm env ρ σ h) (kp : ∀ b o, ¬ N b → h.get? b = some o → h'.get? b = some o) (hl : ∀ b, N b → ∃ o, h'.get? b = some o) (hN : ∀ b, N b → Y b) (hf : ¬ N W.fd) (ho : ∀ b, Own env b → ¬ N b) : St W Y nm env ρ σ h' := by
  have k9 : Kp W Y h h' := fun b o hb e => kp b o (hb.elim (fun q z => q (hN b z)) fun q => q ▸ hf) e
  refine ⟨⟨fun b hb => ?_, S.x.base, S.x.fd, S.x.cl⟩, S.i.kp Wo S.x k9, S.l.map (fun b o hb e => ⟨hb, k9 b o (.inl hb) e⟩) (fun b o hb e => kp b o (ho b hb) e) S.l.own⟩
  by_cases q : N b
  · exact hl b q
  · obtain ⟨o, e⟩ := S.x.at_ b hb
    exact ⟨o, kp b o q e⟩

/-- an iterator is left -/
theorem St.leave (Wo : WdOk W) (S : St W Y nm env ρ σ h) (kp : ∀ b o, ¬ N b → h.get? b = some o → h'.get? b = some o) (hN : ∀ b, N b → Y b) (hXY : ∀ b, X b → Y b) (hXN : ∀ b, X b → ¬ N b) (hf : X W.fd) (ho : ∀ b, Own env b → X b) : St W X nm env ρ σ h' := by
  have k9 : Kp W Y h h' := fun b o hb e => kp b o (hb.elim (fun q z => q (hN b z)) fun q => q ▸ hXN _ hf) e
  refine ⟨⟨fun b hb => ?_, fun b hb => S.x.base b (hXY b hb), hf, fun q => S.x.cl (hXY _ q)⟩, S.i.kp Wo S.x k9, S.l.map (fun b o hb e => ⟨fun q => hb (hXY b q), k9 b o (.inl hb) e⟩) (fun b o hb e => kp b o (hXN b (ho b hb)) e) ho⟩
  obtain ⟨o, e⟩ := S.x.at_ b (hXY b hb)
  exact ⟨o, kp b o (hXN b hb) e⟩

theorem St.fewer {ρ' : Rho} (S : St W X nm env ρ σ h) (hρ : ∀ x v, ρ'.lookup x = some v → ρ.lookup x = some v) : St W X nm env ρ' σ h := ⟨S.x, S.i, S.l.wide hρ⟩
end

/-- what stands behind a comprehension's tests -/
noncomputable def restC (elt : Expr) (gens : List Comprehension) (sc : Scope) (pos : Pos) (d : Nat) (acc : Value) (env : Env) : Sem Unit :=
  match gens[d + 1]? with
  | some g' => do
    let x ← eval g'.iter env
    standAt g'.iter.pos
    let x ← foldedSetIterable g'.iter env x
    let _ ← runOwn (.compStart (.ListComp elt gens sc pos) (d + 1) (← holding [x] (pyIter x)) acc env) env
  | none => do let _ ← call (.builtin "list.append") [acc, ← eval elt env]

theorem compTurn_at {elt : Expr} {gens : List Comprehension} {sc : Scope} {pos : Pos} {d : Nat} {t it : Expr} {ifs : List Expr} (hg : gens[d]? = some ⟨t, it, ifs, 0⟩) (hz : ∀ g', gens[d + 1]? = some g' → g'.is_async = 0) (itv acc : Value) (env : Env) :
    compTurn (.ListComp elt gens sc pos) d itv acc env = (do
      standAt it.pos
      match ← pyNext itv with
      | none => pure (.done .next)
      | some v =>
        letOwnedTupleGo t itv v
        assign t env v
        let mut ok := true
        for c in ifs do
          if ok then ok ← isTrue c env (eval c env)
        if ok then restC elt gens sc pos d acc env
        again (.compLoop (.ListComp elt gens sc pos) d itv acc env)) := by
  unfold compTurn restC
  simp only [hg]
  cases hgs : gens[d + 1]? with
  | none => rfl
  | some g' =>
    obtain ⟨t', it', ifs', a'⟩ := g'
    obtain rfl : a' = 0 := hz _ hgs
    dsimp only
    simp only [bne_self_eq_false, Bool.false_eq_true, if_false, bind_assoc, pure_bind]
    rfl

theorem codeAny_compLoop_at {prog : Program} {w : World} {A : Around} {R : Result → Shared → Prop} {s : Shared} {elt t iter : Expr} {ifs : List Expr} {gens : List Comprehension} {d : Nat} {scope : Scope} {pos : Pos} {it acc : Value} {env : Env} (hg : gens[d]? = some ⟨t, iter, ifs, 0⟩) (hz : ∀ g', gens[d + 1]? = some g' → g'.is_async = 0) (I : Nat → Shared → Prop)
    (turn : ∀ n s, I n s → wpAny (model prog w) A (pyNext it) (fun r s₁ => match r with
      | none => R (.ok .next) s₁
      | some v => wpAny (model prog w) A (letOwnedTupleGo t it v) (fun _ s₁' => wpAny (model prog w) A (assign t env v) (fun _ s₂ =>
          wpAny (model prog w) A (forIn ifs true fun c r => if r = true then do let ok ← isTrue c env (eval c env); pure (ForInStep.yield ok) else pure (ForInStep.yield r)) (fun ok s₃ =>
            if ok = true then wpAny (model prog w) A (restC elt gens scope pos d acc env) (fun _ s₅ => ∃ m, m < n ∧ I m s₅) (notedBy (model prog w) A env fun e s' => R (.error e) s') s₃
            else ∃ m, m < n ∧ I m s₃) (notedBy (model prog w) A env fun e s' => R (.error e) s') s₂) (notedBy (model prog w) A env fun e s' => R (.error e) s') s₁') (notedBy (model prog w) A env fun e s' => R (.error e) s') s₁) (notedBy (model prog w) A env fun e s' => R (.error e) s') s)
    (n : Nat) (h : I n s) : codeAny (model prog w) A (.compLoop (.ListComp elt gens scope pos) d it acc env) R s := by
  refine codeAny_loop rfl I (fun n s hI => ?_) n h
  show wpAny _ A ((compTurn (.ListComp elt gens scope pos) d it acc env).onRaise (fun x => do noteFrame x env; theTreesLotGoes x)) _ _ s
  refine wpAny_noted ?_
  rw [compTurn_at hg hz]
  refine wpAny_bind (wpAny_standAt (wpAny_bind (wpAny_mono (turn n s hI) (fun r s₁ h₁ => ?_) fun _ _ h' => h')))
  cases r with
  | none => exact wpAny_pure h₁
  | some v =>
    refine wpAny_bind (wpAny_mono h₁ (fun _ s₁' h₁' => ?_) fun _ _ h' => h')
    refine wpAny_bind (wpAny_mono h₁' (fun _ s₂ h₂ => wpAny_bind (wpAny_mono h₂ (fun ok s₃ h₃ => ?_) fun _ _ h' => h')) fun _ _ h' => h')
    cases ok with
    | false => exact wpAny_pure ⟨rfl, h₃⟩
    | true => exact wpAny_bind (wpAny_mono h₃ (fun x s₄ h₄ => wpAny_pure ⟨rfl, h₄⟩) fun _ _ h' => h')

theorem codeAny_compStart_at {prog : Program} {w : World} {A : Around} {R : Result → Shared → Prop} {s : Shared} {elt t iter : Expr} {ifs : List Expr} {gens : List Comprehension} {d : Nat} {scope : Scope} {pos : Pos} {it acc : Value} {env : Env} (hg : gens[d]? = some ⟨t, iter, ifs, 0⟩)
    (h0 : codeAny (model prog w) A (.compLoop (.ListComp elt gens scope pos) d it acc env) R s)
    (h : wpAny (model prog w) A (pyIter it) (fun it' s' => codeAny (model prog w) A (.compLoop (.ListComp elt gens scope pos) d it' acc env) R s')
      (notedBy (model prog w) A env fun x s' => R (.error x) s') s) :
    codeAny (model prog w) A (.compStart (.ListComp elt gens scope pos) d it acc env) R s := by
  refine codeAny_of_tree ?_
  show wpAny _ _ ((compStart (.ListComp elt gens scope pos) d it acc env).onRaise (fun x => do noteFrame x env; standAt theWindowsPlace)) _ _ s
  refine wpAny_notedAt ?_
  unfold compStart
  have hc : (clausesOf (.ListComp elt gens scope pos))[d]? = some ⟨t, iter, ifs, 0⟩ := hg
  simp only [hc]
  show wpAny _ _ (ask >>= _) _ _ s
  refine wpAny_bind (wpAny_askSetting (wpAny_ite ?_))
  split
  · first
      | exact wpAny_bind (wpAny_pure (wpAny_pure (And.intro rfl h0)))
      | exact wpAny_pure (And.intro rfl h0)
  · first
      | exact wpAny_bind (wpAny_rule (wpAny_bind (wpAny_standAt (wpAny_bind (wpAny_mono h (fun it' s' h' => wpAny_pure (And.intro rfl h')) fun _ _ x => x)))))
      | (refine wpAny_bind (wpAny_rule ?_); show wpAny _ _ (standAt iter.pos >>= _) _ _ s; exact wpAny_bind (wpAny_standAt (wpAny_bind (wpAny_mono h (fun it' s' h' => wpAny_pure (And.intro rfl h')) fun _ _ x => x))))
end Mine

end

section
open PySem PySem.W PySem.Calls PyProof.Rows PySem.Spec
namespace Mine

section
variable (W : Wd) (T : Tab) (G : Str → Option V) (k : Nat)

/-- the list that a comprehension grows -/
structure Grown (W : Wd) (X : Addr → Prop) (env : Env) (a : Addr) (h : Heap) (ds : List D) : Prop where
  at_ : ∃ vs, h.PlainList a vs ∧ Reps X h vs.toList ds
  x : X a
  own : ¬ Own env a
  fd : a ≠ W.fd

noncomputable def CompS (n : Nat) : Prop := ∀ nm elt gs ρ σ ds σ', evC T G n nm elt gs ρ σ = some (ds, σ') → ∀ (gens : List Comprehension) (d : Nat) (sc : Scope) (pos : Pos), gens.drop (d + 1) = gs → (∀ g ∈ gens, g.is_async = 0) → ∀ (env : Env) (A : Around) (X : Addr → Prop) (E : Value → Shared → Prop) (s : Shared) (a : Addr) (ds₀ : List D) (Q : Unit → Shared → Prop),
  EnvOK W nm env → Room k A → St W X nm env ρ σ s.heap → Grown W X env a s.heap ds₀ → ds₀.length + ds.length < LIM →
  (∀ h' tk, (∀ b o, b ≠ W.fd → b ≠ a → ¬ Mod nm env b → s.heap.get? b = some o → h'.get? b = some o) → St W X nm env ρ σ' h' → Grown W X env a h' (ds₀ ++ ds) → Q () { s with heap := h', toks := tk }) →
  wpAny (model W.prog W.w) A (restC elt gens sc pos d (.ref a) env) Q E s
end

section
variable {W : Wd} {X Y N : Addr → Prop} {env : Env} {a : Addr} {h h' : Heap} {ds : List D}
theorem Grown.map (g : Grown W X env a h ds) (kp : ∀ b o, ¬ X b ∨ b = a → h.get? b = some o → h'.get? b = some o) : Grown W X env a h' ds :=
  ⟨let ⟨vs, p, r⟩ := g.at_; ⟨vs, p.at fun o e => kp a o (.inr rfl) e, r.map fun b o hx e => ⟨hx, kp b o (.inl hx) e⟩⟩, g.x, g.own, g.fd⟩
theorem Grown.gr (g : Grown W X env a h ds) (q : Gr W h h') (x : X W.fd) : Grown W X env a h' ds :=
  g.map fun b o hb e => q b o (fun z => hb.elim (fun y => y (z ▸ x)) fun y => g.fd (y ▸ z)) e
end

section
variable {W : Wd} {T : Tab} {G : Str → Option V} {k n : Nat} {X Y N : Addr → Prop} {nm : Names} {env : Env} {ρ : Rho} {σ σ' : Nat} {A : Around} {E : Value → Shared → Prop} {s : Shared}

noncomputable def stepC (T : Tab) (G : Str → Option V) (n : Nat) (nm : Names) (t : Expr) (ifs : List Expr) (elt : Expr) (gs : List Comprehension) (ρ : Rho) : D → Nat → Option (List D × Nat) := fun d s =>
  (bindT nm t d ρ).bind fun ρ₁ => (tsts T G n nm ifs ρ₁ s).bind fun ok => cond ok.1 (evC T G n nm elt gs ρ₁ ok.2) (some ([], ok.2))

/-- what holds at each turn -/
inductive CInv (W : Wd) (T : Tab) (G : Str → Option V) (n : Nat) (Y N : Addr → Prop) (nm : Names) (env : Env) (ρ : Rho) (σ' : Nat) (t : Expr) (ifs : List Expr) (elt : Expr) (gs : List Comprehension) (a : Addr) (items out ds₀ : List D) (Stt : Nat → Heap → Prop) (s : Shared) (m : Nat) (s' : Shared) : Prop
  | mk (i : Nat) (h : Heap) (tk : Nat) (o1 o2 : List D) (σi : Nat) (hm : m = items.length - i) (hi : i ≤ items.length) (hs : s' = { s with heap := h, toks := tk }) (hov : overC (stepC T G n nm t ifs elt gs ρ) (items.drop i) σi = some (o2, σ')) (ho : out = o1 ++ o2)
    (st : Stt i h) (S : St W Y nm env ρ σi h) (gr : Grown W Y env a h (ds₀ ++ o1)) (kp : ∀ b o, b ≠ W.fd → b ≠ a → ¬ Mod nm env b → ¬ N b → s.heap.get? b = some o → h.get? b = some o) : CInv W T G n Y N nm env ρ σ' t ifs elt gs a items out ds₀ Stt s m s'

theorem comp_loop (Wo : WdOk W) (ITs : TstsS W T G k n) (IC : CompS W T G k n) {t it : Expr} {ifs : List Expr} {elt : Expr} {gens gs : List Comprehension} {d : Nat} {sc : Scope} {pos : Pos} {I a : Addr} {items out ds₀ : List D}
    {Stt : Nat → Heap → Prop} {Md : Nat → Value → Heap → Prop} {R : Result → Shared → Prop}
    (hg : gens[d]? = some ⟨t, it, ifs, 0⟩) (hgs : gens.drop (d + 1) = gs) (hz : ∀ g ∈ gens, g.is_async = 0) (hf : freshT t ρ = true)
    (hov : overC (stepC T G n nm t ifs elt gs ρ) items σ = some (out, σ')) (O : EnvOK W nm env) (Rm : Room k A) (M : Itr W A Y t I N items Stt Md)
    (hXY : ∀ b, X b → Y b) (hYX : ∀ b, Y b → X b ∨ N b) (hXN : ∀ b, X b → ¬ N b) (st : Stt 0 s.heap) (S : St W Y nm env ρ σ s.heap) (hX : X W.fd) (hO : ∀ b, Own env b → X b) (gr : Grown W Y env a s.heap ds₀) (haX : X a) (hl : ds₀.length + out.length < LIM)
    (hR : ∀ h' tk, (∀ b o, b ≠ W.fd → b ≠ a → ¬ Mod nm env b → ¬ N b → s.heap.get? b = some o → h'.get? b = some o) → St W X nm env ρ σ' h' → Grown W X env a h' (ds₀ ++ out) → R (.ok .next) { s with heap := h', toks := tk }) :
    codeAny (model W.prog W.w) A (.compLoop (.ListComp elt gens sc pos) d (.ref I) (.ref a) env) R s := by
  have hNfd : ¬ N W.fd := hXN _ hX
  have hNa : ¬ N a := hXN _ haX
  have hNo : ∀ b, Own env b → ¬ N b := fun b hb => hXN b (hO b hb)
  have hNY : ∀ b, N b → Y b := M.sub
  refine codeAny_compLoop_at hg (fun g' e => hz g' (List.mem_of_getElem? e)) (CInv W T G n Y N nm env ρ σ' t ifs elt gs a items out ds₀ Stt s) ?_ items.length (.mk 0 s.heap s.toks [] out σ rfl (Nat.zero_le _) rfl hov rfl st S (by rw [List.append_nil]; exact gr) fun _ _ _ _ _ _ e => e)
  rintro m s' ⟨i, h, tk, o1, o2, σi, rfl, hi, rfl, hov', rfl, st', S', gr', kp⟩
  rcases Nat.lt_or_ge i items.length with hlt | hge
  · have hd : items[i]? = some items[i] := List.getElem?_eq_getElem hlt
    rw [List.drop_eq_getElem_cons hlt] at hov'
    generalize items[i] = d0 at hd hov'
    refine bindK hov' fun x hstep hq => bindK hq fun y hrest hfin => bindK hstep fun ρ₁ hb hstep => bindK hstep fun okσ htst hev => pairK hfin fun e1 e2 => ?_
    obtain ⟨xs, σ₁⟩ := x
    obtain ⟨ys, σ₂⟩ := y
    obtain ⟨ok, σt⟩ := okσ
    subst e1; subst e2
    dsimp only at hrest hl hR hev
    refine M.item i { s with heap := h, toks := tk } _ _ hlt st' fun v h1 tk1 md1 k1 => ?_
    refine M.go i v d0 { s with heap := h1, toks := tk1 } _ _ hd (bindT_tup hb) md1 fun h2 st2 ia2 k2 => ?_
    have k12 : ∀ b o, ¬ N b → h.get? b = some o → h2.get? b = some o := fun b o q e => k2 b o q (k1 b o q e)
    have S2 : St W Y nm env ρ σi h2 := S'.turn Wo k12 (M.live _ _ st2) hNY hNfd hNo
    refine assign_ok O Wo Rm.1 hb (s := { s with heap := h2, toks := tk1 }) S2 ia2 fun h3 tk3 k3 S3 => ?_
    have st3 : Stt (i + 1) h3 := M.frame _ _ _ st2 fun b o hb e => k3 b o (fun q => hb.elim (fun z => hNo b q.own z) fun z => z (hXY b (hO b q.own))) e
    refine ITs nm ifs ρ₁ σi ok σt htst env A Y _ { s with heap := h3, toks := tk3 } _ O Rm S3 fun h4 tk4 g4 i4 => ?_
    have S4 := S3.gr O g4 i4
    have st4 : Stt (i + 1) h4 := M.frame _ _ _ st3 fun b o hb e => g4 b o (fun q => hb.elim (fun z => hNfd (q ▸ z)) fun z => z (q ▸ hXY _ hX)) e
    have kp4 : ∀ b o, b ≠ W.fd → ¬ Mod nm env b → ¬ N b → h.get? b = some o → h4.get? b = some o := fun b o q1 q3 q4 e => g4 b o q1 (k3 b o q3 (k12 b o q4 e))
    have gr4 : Grown W Y env a h4 (ds₀ ++ o1) := gr'.map fun b o hb e => by
      have hne : b ≠ W.fd := fun q => hb.elim (fun z => z (q ▸ hXY _ hX)) fun z => gr.fd (z ▸ q)
      have hno : ¬ Mod nm env b := fun q => hb.elim (fun z => z (hXY b (hO b q.own))) fun z => gr.own (z ▸ q.own)
      have hnn : ¬ N b := fun q => hb.elim (fun z => z (hNY b q)) fun z => hNa (z ▸ q)
      exact kp4 b o hne hno hnn e
    have hfr := bindT_fresh hb hf
    cases ok with
    | false =>
      rw [if_neg (by decide)]
      cases hev
      exact ⟨items.length - (i + 1), Nat.sub_lt_sub_left hlt (Nat.lt_succ_self i), .mk (i + 1) h4 tk4 o1 ys _ rfl hlt rfl hrest rfl st4 (S4.fewer hfr) gr4 fun b o q1 q2 q3 q4 e => kp4 b o q1 q3 q4 (kp b o q1 q2 q3 q4 e)⟩
    | true =>
      rw [if_pos rfl]
      have hl' : (ds₀ ++ o1).length + xs.length < LIM := by
        rw [List.length_append]
        rw [List.length_append, List.length_append] at hl
        omega
      refine IC nm elt gs ρ₁ σt xs σ₁ hev gens d sc pos hgs hz env A Y _ { s with heap := h4, toks := tk4 } a (ds₀ ++ o1) _ O Rm S4 gr4 hl' fun h5 tk5 k5 S5 gr5 => ?_
      have st5 : Stt (i + 1) h5 := M.frame _ _ _ st4 fun b o hb e => k5 b o (fun q => hb.elim (fun z => hNfd (q ▸ z)) fun z => z (q ▸ hXY _ hX)) (fun q => hb.elim (fun z => hNa (q ▸ z)) fun z => z (q ▸ gr.x)) (fun q => hb.elim (fun z => hNo b q.own z) fun z => z (hXY b (hO b q.own))) e
      exact ⟨items.length - (i + 1), Nat.sub_lt_sub_left hlt (Nat.lt_succ_self i), .mk (i + 1) h5 tk5 (o1 ++ xs) ys σ₁ rfl hlt rfl hrest (List.append_assoc ..).symm st5 (S5.fewer hfr) (by rw [← List.append_assoc]; exact gr5) fun b o q1 q2 q3 q4 e => k5 b o q1 q2 q3 (kp4 b o q1 q3 q4 (kp b o q1 q2 q3 q4 e))⟩
  · have hie : i = items.length := Nat.le_antisymm hi hge
    subst hie
    rw [List.drop_length] at hov'
    refine pairK hov' fun e1 e2 => ?_
    subst e1; subst e2
    refine M.done { s with heap := h, toks := tk } _ _ st' fun h1 tk1 k1 => ?_
    refine hR h1 tk1 (fun b o q1 q2 q3 q4 e => k1 b o q4 (kp b o q1 q2 q3 q4 e)) (S'.leave Wo k1 hNY hXY hXN hX hO) ?_
    obtain ⟨⟨vs, p, r⟩, _, h2, h3⟩ := gr'
    exact ⟨⟨vs, p.at fun o e => k1 a o hNa e, by rw [List.append_nil]; exact r.map fun b o hb e => ⟨fun q => hb (hXY b q), k1 b o (fun q => hb (hNY b q)) e⟩⟩, haX, h2, h3⟩
end
end Mine

end

section
open PySem PySem.W PySem.Calls PyProof.Rows PySem.Spec
namespace Mine

section
variable {W : Wd} {X Y N : Addr → Prop} {nm : Names} {env : Env} {h h' : Heap} {ρ ρ₁ : Rho} {σ σ' : Nat} {a : Addr} {ds : List D}

theorem grow_map (g : Gr W h h') (x : X W.fd) (hY : ∀ b, Y b → X b ∨ (h.get? b = none ∧ ∃ o, h'.get? b = some o)) : ∀ b o, ¬ X b → h.get? b = some o → ¬ Y b ∧ h'.get? b = some o :=
  fun b o hb e => ⟨fun q => (hY b q).elim hb (fun ⟨q, _⟩ => absurd (q.symm.trans e) (by simp)), g b o (fun q => hb (q ▸ x)) e⟩
theorem St.grow (O : EnvOK W nm env) (S : St W X nm env ρ σ h) (g : Gr W h h') (i : Inv W σ' h') (hX : ∀ b, X b → Y b) (hY : ∀ b, Y b → X b ∨ (h.get? b = none ∧ ∃ o, h'.get? b = some o)) : St W Y nm env ρ σ' h' := by
  have S1 := S.gr O g i
  refine ⟨⟨fun b hb => (hY b hb).elim (fun q => S1.x.at_ b q) (·.2), fun b hb => (hY b hb).elim (S.x.base b) fun ⟨q, _⟩ => ?_, hX _ S.x.fd, fun q => (hY _ q).elim S.x.cl fun ⟨q, _⟩ => ?_⟩, i,
    S.l.map (grow_map g S.x.fd hY) (fun b o hb e => g b o (O.own_fd hb) e) fun b hb => hX b (S.l.own b hb)⟩
  · cases e : W.h₀.get? b with
    | none => rfl
    | some o => rw [S.i.base b o e] at q; cases q
  · obtain ⟨o, e⟩ := S.i.clat
    rw [e] at q; cases q
theorem Grown.grow (gr : Grown W X env a h ds) (g : Gr W h h') (x : X W.fd) (hX : ∀ b, X b → Y b) (hY : ∀ b, Y b → X b ∨ (h.get? b = none ∧ ∃ o, h'.get? b = some o)) : Grown W Y env a h' ds :=
  ⟨let ⟨vs, p, r⟩ := gr.at_; ⟨vs, p.at fun o e => g a o gr.fd e, r.map (grow_map g x hY)⟩, hX _ gr.x, gr.own, gr.fd⟩
end

section
variable {W : Wd} {T : Tab} {G : Str → Option V} {k n : Nat}

theorem comp_sound (Wo : WdOk W) (IH : EvS W T G k n) (II : EvIS W T G k n) (ITs : TstsS W T G k n) (IC : CompS W T G k n) : CompS W T G k (n + 1) := by
  intro nm elt gs ρ σ ds σ' h gens d sc pos hgs hz env A X E s a ds₀ Q O R S gr hl P
  cases gs with
  | nil =>
    refine bindK h fun v h1 h => bindK h fun x hvx h => pairK h fun e1 e2 => ?_
    subst e1; subst e2
    have hg : gens[d + 1]? = none := by
      rw [List.drop_eq_nil_iff] at hgs
      exact List.getElem?_eq_none hgs
    unfold restC
    rw [hg]
    refine wpAny_bind (IH nm elt ρ σ _ _ h1 env A X E s _ O R S fun u h1' tk g i r => ?_)
    have S1 := S.gr O g i
    obtain ⟨vs, p1, r1⟩ := (gr.gr g S.x.fd).at_
    have hlen : vs.size = ds₀.length := by simpa using r1.length
    refine wpAny_bind (wpAny_list_append_plain p1 (fun h2 p2 hs => wpAny_pure ?_) (by rw [hlen]; simp only [List.length_cons, List.length_nil] at hl; exact lim_size (by omega)))
    have hd : ∃ o, h2.get? a = some o := let ⟨_, e⟩ := p2; ⟨_, e⟩
    have S2 := S1.but Wo hs hd (fun b hb q => gr.own (q ▸ hb)) gr.x gr.fd
    have km : ∀ b o, ¬ X b → h1'.get? b = some o → ¬ X b ∧ h2.get? b = some o := fun b o hb e => ⟨hb, (hs.2 b fun q => hb (q ▸ gr.x)).trans e⟩
    refine P h2 tk (fun b o q1 q2 q3 e => (hs.2 b q2).trans (g b o q1 e)) S2 ⟨⟨_, p2, ?_⟩, gr.x, gr.own, gr.fd⟩
    rw [Array.toList_push]
    exact (r1.snoc (dOf_rep hvx r)).map km
  | cons g0 gs' =>
    obtain ⟨t, it, ifs, asy⟩ := g0
    have hg : gens[d + 1]? = some ⟨t, it, ifs, asy⟩ := by
      have := congrArg List.head? hgs
      rwa [List.head?_drop] at this
    obtain rfl : asy = 0 := hz _ (List.mem_of_getElem? hg)
    refine condS h fun hf h => bindK h fun iσ h1 h => ?_
    obtain ⟨items, σ₁⟩ := iσ
    · 
      have hgs' : gens.drop (d + 1 + 1) = gs' := by
        rw [← List.drop_drop, hgs]; rfl
      unfold restC
      rw [hg]
      refine wpAny_bind (wpAny_mono (II nm t it ρ σ _ _ h1 env A X E s (fun it' s₂ => wpAny (model W.prog W.w) A (runOwn (.compStart (.ListComp elt gens sc pos) (d + 1) it' (.ref a) env) env) (fun _ s' => Q () s') E s₂) O R S fun I N h' tk fM fN g i => ?_) (fun x s₁ h₁ => ?_) fun _ _ e => e)
      · have hY : ∀ b, (X b ∨ N b) → X b ∨ (s.heap.get? b = none ∧ ∃ o, h'.get? b = some o) := fun b hb => hb.imp id fun q => fN b q
        obtain ⟨Stt, Md, M, st⟩ := fM (fun b => X b ∨ N b) (fun b hb => hb) (fun b hb => hb.elim .inl fun q => .inr (.inl q))
        have S1 : St W (fun b => X b ∨ N b) nm env ρ σ₁ h' := S.grow O g i (fun b hb => .inl hb) hY
        have gr1 : Grown W (fun b => X b ∨ N b) env a h' ds₀ := gr.grow g S.x.fd (fun b hb => .inl hb) hY
        refine wpAny_runOwn ?_ 
        have loop := comp_loop (gens := gens) (elt := elt) (sc := sc) (pos := pos) (s := { s with heap := h', toks := tk }) (R := fun r s' => match r with | .ok _ => Q () s' | .error e => cameBackBy (model W.prog W.w) A env E e s') Wo ITs IC hg hgs' hz hf h O R M (X := X) (fun b hb => .inl hb) (fun b hb => hb) (fun b hb q => by
          obtain ⟨o, e⟩ := S.x.at_ b hb
          rw [(fN b q).1] at e; cases e) st S1 S.x.fd S.l.own gr1 gr.x hl fun h2 tk2 kp S2 gr2 => ?_
        · exact codeAny_compStart_at hg loop (M.self 0 _ _ _ st loop)
        · refine P h2 tk2 (fun b o q1 q2 q3 e => kp b o q1 q2 q3 (fun q => ?_) (g b o q1 e)) S2 gr2
          rw [(fN b q).1] at e; cases e
      · refine wpAny_bind (wpAny_standAt (wpAny_bind (wpAny_of_eq (evI_fold h1 env x) (wpAny_bind (wpAny_holding (wpAny_mono h₁ (fun it' s₂ h₂ => wpAny_bind (wpAny_mono h₂ (fun _ _ e => wpAny_pure e) fun _ _ e => e)) fun _ _ e => e))))))
end
end Mine

end

section
open PySem PySem.W PySem.Calls PyProof.Rows PySem.Spec
namespace Mine

theorem lookup_mem {α : Type} {l : List (Str × α)} {x : Str} {v : α} (h : l.lookup x = some v) : (x, v) ∈ l := by
  induction l with
  | nil => simp at h
  | cons y l ih =>
    obtain ⟨z, w⟩ := y
    rw [List.lookup_cons] at h
    split at h
    · rename_i e
      obtain rfl := eq_of_beq e
      cases h
      exact List.mem_cons_self
    · exact List.mem_cons_of_mem _ (ih h)

theorem lookup_relabel {env : Env} {names : List (Str × NameKind)} {x : Str} {q : NameKind} (h : names.lookup x = some q) :
    (names.map fun (n, k) => if (k == NameKind.free && env.scope.kind == .function && env.kindOf n == some .cell) then (n, NameKind.cell) else (n, k)).lookup x = some (if (q == NameKind.free && env.scope.kind == .function && env.kindOf x == some .cell) = true then .cell else q) := by
  induction names with
  | nil => simp at h
  | cons y l ih =>
    obtain ⟨z, w⟩ := y
    rw [List.lookup_cons] at h
    rw [List.map_cons]
    split at h
    · rename_i e
      obtain rfl := eq_of_beq e
      cases h
      dsimp only
      split
      · rw [List.lookup_cons]; simp
      · rw [List.lookup_cons]; simp
    · rename_i e
      dsimp only
      split
      · rw [List.lookup_cons, e]; exact ih h
      · rw [List.lookup_cons, e]; exact ih h

theorem closure_ok {env : Env} : ∀ (names : List (Str × NameKind)) (cs : List (Str × Addr)), (∀ y ∈ names, y.2 = .free → ∃ c, env.cells.lookup y.1 = some c) → (∀ x c, cs.lookup x = some c → env.cells.lookup x = some c) →
    ∃ cl, (forIn names cs fun (y : Str × NameKind) (cs : List (Str × Addr)) => (do
      if y.2 == .free then do
        let c ← cellOf env y.1
        pure (ForInStep.yield ((y.1, c) :: cs))
      else pure (ForInStep.yield cs) : Sem (ForInStep (List (Str × Addr))))) = pure cl ∧ (∀ x c, cl.lookup x = some c → env.cells.lookup x = some c) ∧ (∀ x, (cs.lookup x).isSome = true → (cl.lookup x).isSome = true) ∧ ∀ y ∈ names, y.2 = .free → (cl.lookup y.1).isSome = true := by
  intro names
  induction names with
  | nil => intro cs _ h; exact ⟨cs, rfl, h, fun _ e => e, fun _ m => by simp at m⟩
  | cons y l ih =>
    intro cs h1 h2
    rw [List.forIn_cons]
    by_cases q : y.2 = .free
    · obtain ⟨c, hc⟩ := h1 y List.mem_cons_self q
      have e : cellOf env y.1 = pure c := by unfold cellOf; rw [hc]
      rw [if_pos (by rw [q]; rfl), e]
      simp only [pure_bind]
      obtain ⟨cl, e1, e2, e3, e4⟩ := ih ((y.1, c) :: cs) (fun z hz => h1 z (List.mem_cons_of_mem _ hz)) (fun x c' hx => by
        rw [List.lookup_cons] at hx
        split at hx
        · rename_i e; obtain rfl := eq_of_beq e; cases hx; exact hc
        · exact h2 x c' hx)
      refine ⟨cl, e1, e2, fun x hx => e3 x ?_, fun z hz hq => ?_⟩
      · rw [List.lookup_cons]; split
        · rfl
        · exact hx
      · rcases List.mem_cons.mp hz with rfl | hz
        · exact e3 _ (by rw [List.lookup_cons]; simp)
        · exact e4 z hz hq
    · rw [if_neg (by simpa using q)]
      simp only [pure_bind]
      obtain ⟨cl, e1, e2, e3, e4⟩ := ih cs (fun z hz => h1 z (List.mem_cons_of_mem _ hz)) h2
      refine ⟨cl, e1, e2, e3, fun z hz hq => ?_⟩
      rcases List.mem_cons.mp hz with rfl | hz
      · exact absurd hq q
      · exact e4 z hz hq

structure ScFacts (nm : Names) (sc : Scope) : Prop where
  kind : sc.kind = .function
  nocell : ∀ y ∈ sc.names, y.2 ≠ .cell
  loc : ∀ y ∈ sc.names, y.2 = .local → sc.names.lookup y.1 = some .local
  free : ∀ y ∈ sc.names, y.2 = .free → celled nm y.1
  noD : ∀ y ∈ sc.names, (y.1 == ("__debug__" : Str)) = false
  noC : ∀ y ∈ sc.names, (y.1 == ("__classdict__" : Str)) = false

theorem scOK_facts {nm : Names} {sc : Scope} (h : scOK nm sc = true) : ScFacts nm sc := by
  unfold scOK at h
  rw [Bool.and_eq_true, List.all_eq_true] at h
  obtain ⟨h0, h⟩ := h
  refine ⟨by simpa using h0, fun y hy => ?_, fun y hy e => ?_, fun y hy e => ?_, fun y hy => ?_, fun y hy => ?_⟩
  all_goals
    have := h y hy
    simp only [Bool.and_eq_true, Bool.or_eq_true, bne_iff_ne, ne_eq, Bool.not_eq_true', beq_iff_eq] at this
    obtain ⟨⟨⟨⟨a, b⟩, c⟩, d⟩, e'⟩ := this
  · exact a
  · rcases b with b | b
    · exact absurd e b
    · exact b
  · rcases c with (c | c) | c
    · exact absurd e c
    · exact .inl c
    · exact .inr c
  · exact beq_eq_false_iff_ne.mpr (by simpa using d)
  · exact beq_eq_false_iff_ne.mpr (by simpa using e')

section
variable {W : Wd} {X Y N : Addr → Prop} {nm : Names} {env : Env} {h h' : Heap} {ρ ρ₁ : Rho} {σ σ' : Nat}
theorem filter_lookup {p : Str → Bool} : ∀ {ρ : Rho} {x : Str} {v : V}, (ρ.filter fun q => p q.1).lookup x = some v → p x = true ∧ ρ.lookup x = some v := by
  intro ρ
  induction ρ with
  | nil => intro x v h; simp at h
  | cons y l ih =>
    intro x v h
    obtain ⟨z, w⟩ := y
    rw [List.filter_cons] at h
    split at h
    · rename_i hp
      rw [List.lookup_cons] at h ⊢
      split at h
      · rename_i e
        obtain rfl := eq_of_beq e
        exact ⟨hp, h⟩
      · rename_i e
        exact ih h
    · rename_i hp
      obtain ⟨a, b⟩ := ih h
      refine ⟨a, ?_⟩
      rw [List.lookup_cons]
      split
      · rename_i e
        obtain rfl := eq_of_beq e
        exact absurd a hp
      · exact b

/-- a comprehension's own frame -/
theorem comp_env {sc : Scope} {cl : List (Str × Addr)} {C : Addr} (F : ScFacts nm sc) (O : EnvOK W nm env) (hc1 : ∀ x c, cl.lookup x = some c → env.cells.lookup x = some c) (hC : C ≠ W.fd) (hCc : ∀ x c, env.cells.lookup x = some c → c ≠ C) : EnvOK W sc.names (compEnvC sc cl C env) where
  kind := F.kind
  glob := O.glob
  blt := O.blt
  loc := fun x hx => by
    have := lookup_relabel (env := env) hx
    rwa [if_neg (by simp)] at this
  gl := fun x hx => by
    have := lookup_relabel (env := env) hx
    rwa [if_neg (by simp)] at this
  celS := fun x hx => absurd rfl (F.nocell _ (lookup_mem hx))
  cel := fun x hx => by
    have := lookup_relabel (env := env) hx
    split at this
    · exact .inl this
    · exact .inr this
  noD := fun x k hx => F.noD _ (lookup_mem hx)
  noC := fun x k hx => F.noC _ (lookup_mem hx)
  inj := fun x y c h1 h2 => O.inj x y c (hc1 x c h1) (hc1 y c h2)
  apart := fun x c h1 => hCc x c (hc1 x c h1)
  fdL := hC
  fdC := fun x c h1 => O.fdC x c (hc1 x c h1)

theorem comp_loc {sc : Scope} {cl : List (Str × Addr)} {C : Addr} {m : Str → Option Value} (F : ScFacts nm sc) (hc1 : ∀ x c, cl.lookup x = some c → env.cells.lookup x = some c) (hc2 : ∀ y ∈ sc.names, y.2 = .free → (cl.lookup y.1).isSome = true)
    (L : Loc W X nm env h ρ) (hn : h.Ns C m) (hXC : X C) : Loc W X sc.names (compEnvC sc cl C env) h (ρ.filter fun p => sc.names.lookup p.1 == some .free) where
  ns := ⟨m, hn, fun x v hx hl => by
    have := (filter_lookup (p := fun y => sc.names.lookup y == some .free) hx).1
    rw [hl] at this
    simp at this⟩
  cell := fun x hx => by
    rcases hx with hx | hx
    · exact absurd rfl (F.nocell _ (lookup_mem hx))
    · have hm := lookup_mem hx
      obtain ⟨c, w, e1, e2, e3⟩ := L.cell x (F.free _ hm rfl)
      have := hc2 _ hm rfl
      obtain ⟨c', hc'⟩ := Option.isSome_iff_exists.mp this
      have e := hc1 x c' hc'
      rw [e1] at e
      cases e
      exact ⟨c, w, hc', e2, fun v hv => e3 v (filter_lookup (p := fun y => sc.names.lookup y == some .free) hv).2⟩
  own := fun b hb => by
    rcases hb with rfl | ⟨x, hx⟩
    · exact hXC
    · exact L.own b (.inr ⟨x, hc1 x b hx⟩)
end
end Mine

end

section
open PySem PySem.W PySem.Calls PyProof.Rows PySem.Spec
namespace Mine

section
variable {W : Wd} {T : Tab} {G : Str → Option V} {k n : Nat} {X : Addr → Prop} {nm : Names} {env : Env} {ρ : Rho} {σ σ' : Nat} {A : Around} {E : Value → Shared → Prop} {s : Shared} {Q : Value → Shared → Prop}

/-- a list comprehension; C: its frame's own table, D: the list -/
theorem comp_run (Wo : WdOk W) (II : EvIS W T G k n) (ITs : TstsS W T G k n) (IC : CompS W T G k n) {elt t it : Expr} {ifs : List Expr} {gs : List Comprehension} {sc : Scope} {pos pos' : Pos} {items ds : List D} {σ₁ : Nat} {use : Option (Value → Sem Unit)}
    (hsc : scOK nm sc = true) (hf : freshT t (ρ.filter fun p => sc.names.lookup p.1 == some .free) = true) (hz : (gs.all (fun g => g.is_async == 0)) = true) (h1 : evI T G n nm t it ρ σ = some (items, σ₁))
    (h2 : overC (stepC T G n sc.names t ifs elt gs (ρ.filter fun p => sc.names.lookup p.1 == some .free)) items σ₁ = some (ds, σ')) (hl : ds.length < LIM)
    (O : EnvOK W nm env) (R : Room k A) (S : St W X nm env ρ σ s.heap)
    (P : ∀ a C h' tk m, s.heap.get? a = none → s.heap.get? C = none → a ≠ C → Gr W s.heap h' → Inv W σ' h' → h'.Ns C m → Rep (fun b => X b ∨ b = C) h' (.ref a) (.list ds) → compPost (model W.prog W.w) A E use Q (.ref a) C (.ok .next) { s with heap := h', toks := tk }) :
    wpAny (model W.prog W.w) A (comprehension (.ListComp elt (⟨t, it, ifs, 0⟩ :: gs) sc pos) sc env pos' (newList []) false (eval it env) use) Q E s := by
  have F := scOK_facts hsc
  obtain ⟨cl, hcl, hc1, _, hc2⟩ := closure_ok (env := env) sc.names [] (fun y hy e => by
    obtain ⟨c, _, e1, _⟩ := S.l.cell y.1 (F.free y hy e)
    exact ⟨c, e1⟩) (fun x c e => by simp at e)
  have hclos : closureFor sc env = pure cl := by
    unfold closureFor
    exact (bind_pure _).trans hcl
  have hz' : ∀ g ∈ (⟨t, it, ifs, 0⟩ :: gs : List Comprehension), g.is_async = 0 := by
    intro g hg
    rcases List.mem_cons.mp hg with rfl | hg
    · rfl
    · rw [List.all_eq_true] at hz
      simpa using hz g hg
  refine wpAny_comprehension_free (g := ⟨t, it, ifs, 0⟩) (gs := gs) (cl := cl) rfl (evI_fold h1 env) hclos F.kind F.loc ?_
  refine II nm t it ρ σ _ _ h1 env A X E s _ O R S fun I N h' tk fM fN g i => ?_
  refine wpAny_newObj_type (wpAny_newFunctionEnv F.nocell (by intro y hy; simp at hy) (fun h₁ hns₁ hsb₁ => ?_) F.kind) (by show ([] : List Value).toArray.size ≤ sizeLine; exact Nat.zero_le _)
  dsimp only at hns₁ hsb₁ ⊢
  generalize hH2 : h'.push { cls := .type "list", dict := none, data := .seq ([] : List Value).toArray } = H2 at hns₁ hsb₁ ⊢
  have hC : H2.objs.size = h'.objs.size + 1 := by rw [← hH2, Heap.size_push]
  have hDC : h'.objs.size ≠ H2.objs.size := by rw [hC]; exact Nat.ne_of_lt (Nat.lt_succ_self _)
  have kp1 : ∀ b o, h'.get? b = some o → h₁.get? b = some o := fun b o e => by
    have hb := Heap.lt_size e
    exact hsb₁.extBut b o (by rw [hC]; exact Nat.ne_of_lt (Nat.lt_succ_of_lt hb)) (Heap.get?_push_of_some _ (hH2 ▸ Heap.get?_push_of_some _ e))
  have hacc : h₁.PlainList h'.objs.size #[] := ⟨_, hsb₁.extBut _ _ hDC (Heap.get?_push_of_some _ (hH2 ▸ Heap.get?_push_size _ rfl))⟩
  have hCat : ∃ o, h₁.get? H2.objs.size = some o := by
    obtain ⟨o, _, _, e, _⟩ := hns₁
    exact ⟨o, e⟩
  have hDat : ∃ o, h₁.get? h'.objs.size = some o := let ⟨_, e⟩ := hacc; ⟨_, e⟩
  have g1 : Gr W s.heap h₁ := g.trans (Gr.of_keeps kp1)
  have i1 : Inv W σ₁ h₁ := i.keeps Wo kp1
  have nD : s.heap.get? h'.objs.size = none := none_gr g i (get_end _ (Nat.le_refl _))
  have nC : s.heap.get? H2.objs.size = none := none_gr g i (get_end _ (by omega))
  have fdlt := i.fd_lt
  -- what is shut out: X, the iterator's own, the list, the frame
  have hYe : ∀ b, (X b ∨ N b ∨ b = h'.objs.size ∨ b = H2.objs.size) → X b ∨ (s.heap.get? b = none ∧ ∃ o, h₁.get? b = some o) := by
    rintro b (q | q | q | q)
    · exact .inl q
    · obtain ⟨e, o, e'⟩ := fN b q
      exact .inr ⟨e, o, kp1 b o e'⟩
    · exact .inr ⟨q ▸ nD, q ▸ hDat⟩
    · exact .inr ⟨q ▸ nC, q ▸ hCat⟩
  have S1 := S.grow (Y := fun b => X b ∨ N b ∨ b = h'.objs.size ∨ b = H2.objs.size) O g1 i1 (fun b hb => .inl hb) hYe
  obtain ⟨Stt, Md, M, st⟩ := fM (fun b => X b ∨ N b ∨ b = h'.objs.size ∨ b = H2.objs.size) (fun b hb => hb.elim .inl fun q => .inr (.inl q)) (fun b hb => by
    rcases hb with q | q | q | q
    · exact .inl q
    · exact .inr (.inl q)
    · exact .inr (.inr (q ▸ get_end _ (Nat.le_refl _)))
    · exact .inr (.inr (q ▸ get_end _ (by omega))))
  have st1 : Stt 0 h₁ := M.frame 0 _ _ st fun b o _ e => kp1 b o e
  have hcells : ∀ x c, env.cells.lookup x = some c → c ≠ H2.objs.size := fun x c e q => by
    have := Own.lt S (.inr ⟨x, e⟩)
    obtain ⟨o, e'⟩ := S.x.at_ c (S.l.own c (.inr ⟨x, e⟩))
    rw [q, nC] at e'; cases e'
  have O' : EnvOK W sc.names (compEnvC sc cl H2.objs.size env) := comp_env F O hc1 (by rw [hC]; exact Nat.ne_of_gt (Nat.lt_succ_of_lt fdlt)) hcells
  have L' : Loc W (fun b => X b ∨ N b ∨ b = h'.objs.size ∨ b = H2.objs.size) sc.names (compEnvC sc cl H2.objs.size env) h₁ (ρ.filter fun p => sc.names.lookup p.1 == some .free) :=
    comp_loc F hc1 hc2 S1.l hns₁ (.inr (.inr (.inr rfl)))
  have S2 : St W (fun b => X b ∨ N b ∨ b = h'.objs.size ∨ b = H2.objs.size) sc.names (compEnvC sc cl H2.objs.size env) (ρ.filter fun p => sc.names.lookup p.1 == some .free) σ₁ h₁ := ⟨S1.x, S1.i, L'⟩
  have ownX : ∀ b, Own (compEnvC sc cl H2.objs.size env) b → X b ∨ b = H2.objs.size := fun b hb => by
    rcases hb with q | ⟨x, q⟩
    · exact .inr q
    · exact .inl (S.l.own b (.inr ⟨x, hc1 x b q⟩))
  have xn : ∀ b, X b → s.heap.get? b ≠ none := fun b hb q => by
    obtain ⟨o, e⟩ := S.x.at_ b hb
    rw [q] at e; cases e
  have nN : ∀ b, N b → s.heap.get? b = none ∧ ∃ o, h'.get? b = some o := fN
  have XN : ∀ b, (X b ∨ b = h'.objs.size ∨ b = H2.objs.size) → ¬ N b := by
    rintro b (q | q | q) hb
    · exact xn b q (nN b hb).1
    · obtain ⟨o, e⟩ := (nN b hb).2
      rw [q, get_end _ (Nat.le_refl _)] at e; cases e
    · obtain ⟨o, e⟩ := (nN b hb).2
      rw [q, get_end _ (by omega)] at e; cases e
  have gr1 : Grown W (fun b => X b ∨ N b ∨ b = h'.objs.size ∨ b = H2.objs.size) (compEnvC sc cl H2.objs.size env) h'.objs.size h₁ [] :=
    ⟨⟨#[], hacc, .nil⟩, .inr (.inr (.inl rfl)), fun q => (ownX _ q).elim (fun z => xn _ z nD) (fun z => hDC z), Nat.ne_of_gt fdlt⟩
  have loop := comp_loop (elt := elt) (gens := ⟨t, it, ifs, 0⟩ :: gs) (d := 0) (sc := sc) (pos := pos) (s := { s with heap := h₁, toks := tk + ([] : List (Str × Value)).length }) (A := A) (X := fun b => X b ∨ b = h'.objs.size ∨ b = H2.objs.size)
    (R := compPost (model W.prog W.w) A E use Q (.ref h'.objs.size) H2.objs.size) Wo ITs IC (by rfl) rfl hz' hf h2 O' R M (fun b hb => hb.elim .inl fun q => .inr (.inr q)) (fun b hb => by
      rcases hb with q | q | q
      · exact .inl (.inl q)
      · exact .inr q
      · exact .inl (.inr q)) XN st1 S2 (.inl S.x.fd) (fun b hb => (ownX b hb).elim .inl fun q => .inr (.inr q)) gr1 (.inr (.inl rfl)) (by simpa using hl) fun h2' tk2 kp S3 gr3 => ?_
  · exact codeAny_compStart_at rfl loop (M.self 0 _ _ _ st1 loop)
  · obtain ⟨m3, hn3, _⟩ := S3.l.ns
    obtain ⟨vs, p3, r3⟩ := gr3.at_
    obtain ⟨n9, e9⟩ := p3
    refine P h'.objs.size H2.objs.size h2' tk2 m3 nD nC hDC (fun b o q e => ?_) S3.i hn3 (.list (fun q => ?_) e9 rfl rfl rfl (r3.wide fun b hb => hb.elim .inl fun q => .inr (.inr q)) (by simpa using hl))
    · have e1 := g1 b o q e
      refine kp b o q (fun z => by rw [z, nD] at e; cases e) (fun z => ?_) (fun z => by rw [(fN b z).1] at e; cases e) e1
      rcases z with z | ⟨x, hx, _⟩
      · rw [z] at e
        rw [show (compEnvC sc cl H2.objs.size env).locals = H2.objs.size from rfl, nC] at e
        cases e
      · exact absurd rfl (F.nocell _ (lookup_mem hx))
    · exact q.elim (fun z => xn _ z nD) hDC
end
end Mine

end

section
open PySem PySem.W PySem.Calls PyProof.Rows PySem.Spec
namespace Mine

section
variable {W : Wd} {T : Tab} {G : Str → Option V} {k n : Nat} {X : Addr → Prop} {nm : Names} {env : Env} {ρ : Rho} {σ σ' : Nat} {A : Around} {E : Value → Shared → Prop} {s : Shared} {v : V} {Q : Value → Shared → Prop}

theorem Inv.but {h h' : Heap} {a : Addr} (Wo : WdOk W) (i : Inv W σ h) (hs : Heap.SameBut a h h') (h0 : W.h₀.get? a = none) (hf : a ≠ W.fd) (hc : a ≠ W.cl) : Inv W σ h' :=
  ⟨fun b o e => (hs.2 b fun q => by rw [q, h0] at e; cases e).trans (i.base b o e), W.stab (fun b o hb e => (hs.2 b fun q => hb.elim (fun z => hf (q ▸ z)) fun z => hc (q ▸ z)).trans e) i.feed,
    let ⟨o, e⟩ := i.fdat; ⟨o, (hs.2 _ hf.symm).trans e⟩, let ⟨o, e⟩ := i.clat; ⟨o, (hs.2 _ hc.symm).trans e⟩⟩

theorem Inv.new {h : Heap} (i : Inv W σ h) {a : Addr} (ha : h.get? a = none) : W.h₀.get? a = none ∧ a ≠ W.fd ∧ a ≠ W.cl := by
  refine ⟨?_, fun q => ?_, fun q => ?_⟩
  · cases e : W.h₀.get? a with
    | none => rfl
    | some o => rw [i.base a o e] at ha; cases ha
  · obtain ⟨o, e⟩ := i.fdat
    rw [q, e] at ha; cases ha
  · obtain ⟨o, e⟩ := i.clat
    rw [q, e] at ha; cases ha

theorem arm_ListComp (Wo : WdOk W) (II : EvIS W T G k n) (ITs : TstsS W T G k n) (IC : CompS W T G k n) {elt : Expr} {gens : List Comprehension} {sc : Scope} {p : Pos} (h : ev T G (n + 1) nm (.ListComp elt gens sc p) ρ σ = some (v, σ'))
    (O : EnvOK W nm env) (R : Room k A) (S : St W X nm env ρ σ s.heap) (P : PostV W X σ' v s Q) : wpAny (model W.prog W.w) A (eval (.ListComp elt gens sc p) env) Q E s := by
  refine bindK h fun g hg h => condS h fun hc h => bindK h fun items h1 h => bindK h fun ds h2 h => ifS h fun hl h => ?_
  have P := P.of h
  rw [cons_inv hg]
  obtain ⟨⟨t, it, ifs, a⟩, gs⟩ := g
  refine andK hc fun ha hc => andK hc fun hc hz => andK hc fun hs hf => ?_
  obtain rfl := eq_of_beq ha
  rw [eval_ListComp]
  refine comp_run (use := none) Wo II ITs IC hs hf hz h1 (σ' := ds.2) (ds := ds.1) h2 hl O R S fun a C h' tk m na nC hne g i hn r => ⟨m, hn, fun h'' hs => ?_⟩
  obtain ⟨c1, c2, c3⟩ := S.i.new nC
  refine P (.ref a) h'' tk (fun b o q e => (hs.2 b fun z => by rw [z, nC] at e; cases e).trans (g b o q e)) (i.but Wo hs c1 c2 c3) ?_
  exact Rep.map (fun b o hb e => ⟨fun q => hb (.inl q), (hs.2 b fun q => hb (.inr q)).trans e⟩) r

theorem arm_Call (TO : TabOK W k T) (EO : EvOK W) (IH : EvS W T G k n) (IHs : EvsS W T G k n) {f : Expr} {args : List Expr} {kws : List Keyword} {p : Pos} (h : ev T G (n + 1) nm (.Call f args kws p) ρ σ = some (v, σ'))
    (O : EnvOK W nm env) (R : Room k A) (S : St W X nm env ρ σ s.heap) (P : PostV W X σ' v s Q) : wpAny (model W.prog W.w) A (eval (.Call f args kws p) env) Q E s := by
  refine bindK h fun _ hk h => bindK h fun aa ha h => ?_
  rw [nil_inv hk, cons_inv ha]
  refine ocK h (fun _ h => bindK h fun g hg h => bindK h fun fv h1 h => bindK h fun vs h2 h => ?_) fun omq ho h => bindK h fun x hx h => bindK h fun e h1 h => bindK h fun kr he h => bindK h fun vs h2 h => condS h fun hm h => andK hm fun hm hn => andK hm fun hm hl => ?_
  · rw [name_inv hg]
    exact arm_call TO EO IH IHs (fun _ => rfl) h h1 h2 O R S P
  · rw [attr_inv ho, name_inv hx]
    have h1' : ev T G n nm (.Name x.1 x.2) ρ σ = some (.ev kr.1 kr.2, e.2) := by rw [h1, ← evOf_inv he]
    exact arm_method TO EO IH IHs h1' h2 hm hl (of_decide_eq_true hn) h O R S P

theorem arm_Subscript (Wo : WdOk W) (IHm : ∀ m, m ≤ n → EvS W T G k m) (IHO : EvOS W T G k n) {e i : Expr} {p : Pos} (h : ev T G (n + 1) nm (.Subscript e i p) ρ σ = some (v, σ'))
    (O : EnvOK W nm env) (R : Room k A) (S : St W X nm env ρ σ s.heap) (P : PostV W X σ' v s Q) : wpAny (model W.prog W.w) A (eval (.Subscript e i p) env) Q E s := by
  have IH := IHm n (Nat.le_refl n)
  refine ocK h (fun _ h => bindK h fun a h1 h => ocK h (fun hi h => arm_item IH hi (bto h1 h) O R S P) fun lh hs h => bindK h fun x hx h => condS h fun hst h => bindK h fun l h2 h => bindK h fun u h3 h => bindK h fun d hd h => ?_)
    fun kv hk h => bindK h fun xs h1 h => bindK h fun w h2 h => bindK h fun x hx h => bindK h fun y hy h => bindK h fun ss hss h => bindK h fun ds hp h => ifS h fun hc h => bindK h fun d hl h => ?_
  · rw [slice_inv hs, isN_inv hst]
    exact arm_slice Wo IH IHO h1 hx h2 h3 hd O R S (P.of h)
  · rw [dict_inv hk]
    exact arm_dictsub Wo IHm h1 h2 hx hy hss hp hc hl O R S (P.of h)

theorem arm_UnaryOp (IH : EvS W T G k n) {op : UnaryOp} {x : Expr} {p : Pos} (h : ev T G (n + 1) nm (.UnaryOp op x p) ρ σ = some (v, σ')) (O : EnvOK W nm env) (R : Room k A) (S : St W X nm env ρ σ s.heap) (P : PostV W X σ' v s Q) :
    wpAny (model W.prog W.w) A (eval (.UnaryOp op x p) env) Q E s := by
  induction op using UnaryOp.casesOn
  case USub => exact arm_USub h S P
  case Not => exact arm_Not IH h O R S P
  all_goals exact nos h

theorem ev_sound (Wo : WdOk W) (Go : GOK W G) (TO : TabOK W k T) (EO : EvOK W) (IHm : ∀ m, m ≤ n → EvS W T G k m) (IT : TstS W T G k n) (IHs : EvsS W T G k n) (IHO : EvOS W T G k n) (II : EvIS W T G k n) (ITs : TstsS W T G k n) (IC : CompS W T G k n) : EvS W T G k (n + 1) := by
  intro nm e ρ σ v σ' h env A X E s Q O R S P
  have IH := IHm n (Nat.le_refl n)
  induction e using Expr.casesOn
  case Constant => exact arm_Constant h S P
  case Name => exact arm_Name Wo Go h O S P
  case BinOp => exact arm_BinOp Wo IH h O R S P
  case UnaryOp => exact arm_UnaryOp IH h O R S P
  case IfExp => exact arm_IfExp IH IT h O R S P
  case BoolOp => exact arm_BoolOp IH h O R S P
  case Compare => exact arm_Compare IH h O R S P
  case Call => exact arm_Call TO EO IH IHs h O R S P
  case Attribute o m q =>
    refine bindK h fun x hx h => bindK h fun e h1 h => bindK h fun kr he h => ?_
    rw [name_inv hx]
    have h1' : ev T G n nm (.Name x.1 x.2) ρ σ = some (.ev kr.1 kr.2, e.2) := by rw [h1, ← evOf_inv he]
    exact arm_attr Wo EO IH h1' h O R S P
  case Subscript => exact arm_Subscript Wo IHm IHO h O R S P
  case Tuple => exact arm_Tuple IHs h Wo O R S P
  case List => exact arm_List IHs h Wo O R S P
  case Dict ks vs p =>
    refine bindK h fun _ hk h => bindK h fun _ hv h => ?_
    rw [nil_inv hk, nil_inv hv]
    exact arm_Dict0 Wo S (P.of h)
  case ListComp => exact arm_ListComp Wo II ITs IC h O R S P
  all_goals exact nos h

/-- all together -/
structure AllS (W : Wd) (T : Tab) (G : Str → Option V) (k n : Nat) : Prop where
  ev : EvS W T G k n
  evs : EvsS W T G k n
  evO : EvOS W T G k n
  tst : TstS W T G k n
  tsts : TstsS W T G k n
  evI : EvIS W T G k n
  comp : CompS W T G k n

theorem all_sound (Wo : WdOk W) (Go : GOK W G) (TO : TabOK W k T) (EO : EvOK W) (n : Nat) : AllS W T G k n := by
  induction n using Nat.strongRecOn with
  | ind n ih =>
    cases n with
    | zero =>
      refine ⟨?_, ?_, ?_, ?_, ?_, ?_, ?_⟩
      · intro nm e ρ σ v σ' h; exact nos h
      · intro nm e ρ σ v σ' h; exact nos h
      · intro nm e ρ σ v σ' h; exact nos h
      · intro nm e ρ σ v σ' h; exact nos h
      · intro nm e ρ σ v σ' h; exact nos h
      · intro nm t e ρ σ v σ' h; exact nos h
      · intro nm elt gs ρ σ v σ' h; exact nos h
    | succ n =>
      have I := ih n (Nat.lt_succ_self n)
      exact ⟨ev_sound Wo Go TO EO (fun m hm => (ih m (Nat.lt_succ_of_le hm)).ev) I.tst I.evs I.evO I.evI I.tsts I.comp, evs_sound I.ev I.evs, evO_sound I.ev, tst_sound I.ev I.tst, tsts_sound I.tst I.tsts, evI_sound Wo I.ev, comp_sound Wo I.ev I.evI I.tsts I.comp⟩
end
end Mine

end

section
open PySem PySem.W PySem.Calls PyProof.Rows PySem.Spec
namespace Mine

section
variable (W : Wd) (T : Tab) (G : Str → Option V) (k : Nat)
/-- what a frame's statements keep -/
noncomputable def KF (W : Wd) (nm : Names) (env : Env) (h h' : Heap) : Prop := ∀ b o, b ≠ W.fd → ¬ Mod nm env b → h.get? b = some o → h'.get? b = some o

noncomputable def PostF (X : Addr → Prop) (nm : Names) (env : Env) (σ' : Nat) (fl : Fl) (s : Shared) (Q : Flow → Shared → Prop) : Prop := match fl with
  | .next ρ' => ∀ h' tk, KF W nm env s.heap h' → St W X nm env ρ' σ' h' → Q .next { s with heap := h', toks := tk }
  | .ret v => ∀ u h' tk, KF W nm env s.heap h' → Inv W σ' h' → RepV W X h' u v → Q (.ret u) { s with heap := h', toks := tk }

noncomputable def ExS (n : Nat) : Prop := ∀ nm st ρ σ fl σ', ex T G n nm st ρ σ = some (fl, σ') → ∀ (env : Env) (A : Around) (X : Addr → Prop) (E : Value → Shared → Prop) (s : Shared) (Q : Flow → Shared → Prop),
  EnvOK W nm env → Room k A → St W X nm env ρ σ s.heap → PostF W X nm env σ' fl s Q → wpAny (model W.prog W.w) A (exec st env) Q E s
noncomputable def ExsS (n : Nat) : Prop := ∀ nm sts ρ σ fl σ', exs T G n nm sts ρ σ = some (fl, σ') → ∀ (env : Env) (A : Around) (X : Addr → Prop) (E : Value → Shared → Prop) (s : Shared) (Q : Flow → Shared → Prop),
  EnvOK W nm env → Room k A → St W X nm env ρ σ s.heap → PostF W X nm env σ' fl s Q → wpAny (model W.prog W.w) A (execs sts env) Q E s
end

section
variable {W : Wd} {T : Tab} {G : Str → Option V} {k n : Nat} {X : Addr → Prop} {nm : Names} {env : Env} {ρ : Rho} {σ σ' : Nat} {A : Around} {E : Value → Shared → Prop} {s : Shared} {fl : Fl} {Q : Flow → Shared → Prop}

theorem KF.of_gr {h h' : Heap} (g : Gr W h h') : KF W nm env h h' := fun b o q _ e => g b o q e
theorem KF.trans {h h' h'' : Heap} (a : KF W nm env h h') (b : KF W nm env h' h'') : KF W nm env h h'' := fun x o q r e => b x o q r (a x o q r e)
theorem PostF.after {h' : Heap} {tk : Nat} (P : PostF W X nm env σ' fl s Q) (g : KF W nm env s.heap h') : PostF W X nm env σ' fl { s with heap := h', toks := tk } Q := by
  cases fl with
  | next ρ' => exact fun h'' tk' g' S => P h'' tk' (g.trans g') S
  | ret v => exact fun u h'' tk' g' i r => P u h'' tk' (g.trans g') i r

theorem exs_sound (IX : ExS W T G k n) (IXs : ExsS W T G k n) : ExsS W T G k (n + 1) := by
  intro nm sts ρ σ fl σ' h env A X E s Q O R S P
  cases sts with
  | nil =>
    refine pairK h fun e1 e2 => ?_
    subst e1; subst e2
    exact wpAny_execs_nil (P s.heap s.toks (fun _ _ _ _ e => e) S)
  | cons st rest =>
    refine bindK h fun fσ h1 h => ?_
    obtain ⟨f1, σ₁⟩ := fσ
    refine wpAny_execs_cons (IX nm st ρ σ f1 σ₁ h1 env A X E s _ O R S ?_)
    cases f1 with
    | next ρ₁ => exact fun h' tk g S' => IXs nm rest ρ₁ σ₁ fl σ' h env A X E _ Q O R S' (P.after g)
    | ret v =>
      refine pairK h fun e1 e2 => ?_
      subst e1; subst e2
      exact fun u h' tk g i r => P u h' tk g i r

theorem st_If (I : AllS W T G k n) (IXs : ExsS W T G k n) {t : Expr} {a b : List Stmt} {p : Pos} (h : ex T G (n + 1) nm (.If t a b p) ρ σ = some (fl, σ')) (O : EnvOK W nm env) (R : Room k A) (S : St W X nm env ρ σ s.heap) (P : PostF W X nm env σ' fl s Q) :
    wpAny (model W.prog W.w) A (exec (.If t a b p) env) Q E s := by
  refine bindK h fun cσ h1 h => ?_
  obtain ⟨c, σ₁⟩ := cσ
  refine wpAny_If (I.tst nm t ρ σ _ _ h1 env A X E s _ O R S fun h' tk g i => ?_)
  cases c with
  | true => exact IXs nm a ρ _ _ _ h env A X E _ _ O R (S.gr O g i) (P.after (KF.of_gr g))
  | false => exact IXs nm b ρ _ _ _ h env A X E _ _ O R (S.gr O g i) (P.after (KF.of_gr g))

theorem PostF.of {fl' : Fl} (h : some (fl', σ) = some (fl, σ')) (P : PostF W X nm env σ' fl s Q) : PostF W X nm env σ fl' s Q :=
  pairK h fun e1 e2 => by rw [e1, e2]; exact P
theorem st_Return (I : AllS W T G k n) {eo : Option Expr} {p : Pos} (h : ex T G (n + 1) nm (.Return eo p) ρ σ = some (fl, σ')) (O : EnvOK W nm env) (R : Room k A) (S : St W X nm env ρ σ s.heap) (P : PostF W X nm env σ' fl s Q) :
    wpAny (model W.prog W.w) A (exec (.Return eo p) env) Q E s := by
  refine bindK h fun e he h => bindK h fun v h1 h => ?_
  have P := P.of h
  rw [he]
  exact wpAny_Return_some (I.ev nm e ρ σ _ _ h1 env A X E s _ O R S fun u h' tk g i r => P u h' tk (KF.of_gr g) i r)

theorem KF.store {h h' : Heap} (g : ∀ b o, ¬ Mod nm env b → h.get? b = some o → h'.get? b = some o) : KF W nm env h h' := fun b o _ q e => g b o q e

theorem swaps_cases {e : Expr} {v : V} {x : Str} {px : Pos} {line : Nat} (h : ev T G n nm e ρ σ = some (v, σ')) (env : Env) :
    swapsWith e (some (.Name x px)) line env = pure false ∨ (swapsWith e (some (.Name x px)) line env = pure true ∧ ∃ elt gens sc p, e = .ListComp elt gens sc p) := by
  cases n with
  | zero => exact nos h
  | succ n =>
    induction e using Expr.casesOn
    case ListComp elt gens sc p =>
      clear h
      have : ∃ b, swapsWith (.ListComp elt gens sc p) (some (.Name x px)) line env = pure b := ⟨_, rfl⟩
      obtain ⟨b, e⟩ := this
      cases b with
      | false => exact .inl e
      | true => exact .inr ⟨e, elt, gens, sc, p, rfl⟩
    all_goals first | exact .inl rfl | exact nos h

theorem st_used (Wo : WdOk W) (I : AllS W T G k n) {x : Str} {px p p' : Pos} {elt : Expr} {gens : List Comprehension} {sc : Scope} {v : V} {σ₁ : Nat} (h1 : ev T G (n + 1) nm (.ListComp elt gens sc p') ρ σ = some (v, σ₁)) (hst : stor nm x = true)
    (hs : swapsWith (.ListComp elt gens sc p') (some (.Name x px)) p.line env = pure true) (O : EnvOK W nm env) (R : Room k A) (S : St W X nm env ρ σ s.heap) (P : PostF W X nm env σ₁ (.next (setName ρ x v)) s Q) :
    wpAny (model W.prog W.w) A (exec (.Assign [.Name x px] (.ListComp elt gens sc p') p) env) Q E s := by
  refine bindK h1 fun g hg h => condS h fun hc h => bindK h fun items h3 h => bindK h fun ds h2 h => ifS h fun hl h => pairK h fun e1 e2 => ?_
  subst e1; subst e2
  rw [exec_Assign_Name_used x px _ p hs]
  rw [cons_inv hg]
  clear h hs hg h1
  obtain ⟨⟨t, it, ifs, a⟩, gs⟩ := g
  refine andK hc fun ha hc => andK hc fun hc hz => andK hc fun hs hf => ?_
  obtain rfl := eq_of_beq ha
  refine wpAny_bind (wpAny_standAt (wpAny_bind ?_))
  show wpAny _ _ (comprehension (.ListComp elt (⟨t, it, ifs, 0⟩ :: gs) sc p') sc env _ (newList []) false (eval it env) (some (assign (.Name x px) env)) >>= _) _ _ _
  refine wpAny_bind (comp_run (use := some (assign (.Name x px) env)) (Q := fun _ s' => wpAny (model W.prog W.w) A (pure PUnit.unit) (fun _ s' => wpAny (model W.prog W.w) A (pure Flow.next) Q E s') E s') Wo I.evI I.tsts I.comp hs hf hz h3 (σ' := ds.2) (ds := ds.1) h2 hl O R S fun a C h' tk m na nC hne g i hn r => ?_)
  have hCat : ∃ o, h'.get? C = some o := by
    obtain ⟨o, _, _, e, _⟩ := hn
    exact ⟨o, e⟩
  have S1 : St W (fun b => X b ∨ b = C) nm env ρ ds.2 h' := S.grow O g i (fun b hb => .inl hb) fun b hb => hb.imp id fun q => by subst q; exact ⟨nC, hCat⟩
  have nown : ∀ b, Own env b → b ≠ C := fun b hb q => by
    obtain ⟨o, e⟩ := S.x.at_ b (S.l.own b hb)
    rw [q, nC] at e; cases e
  refine wpAny_assign_Name (store_ok (v := .d (.list ds.1)) O Wo S1 (stor_iff hst) r fun h2' tk2 g2 S2 => ⟨m, hn.at' fun o e => g2 C o (fun q => nown C q.own rfl) e, fun h3 hs3 => ?_⟩)
  refine wpAny_pure (wpAny_pure (P h3 tk2 (fun b o q1 q2 e => (hs3.2 b fun z => by rw [z, nC] at e; cases e).trans (g2 b o q2 (g b o q1 e))) ?_))
  exact S2.leave (N := fun b => b = C) Wo (fun b o q e => (hs3.2 b q).trans e) (fun b q => .inr q) (fun b q => .inl q) (fun b q z => by
    obtain ⟨o, e⟩ := S.x.at_ b q
    rw [z, nC] at e; cases e) S.x.fd S.l.own

theorem st_AssignName (Wo : WdOk W) (Im : ∀ m, m ≤ n → AllS W T G k m) {x : Str} {px p : Pos} {e : Expr} (h : ((ev T G n nm e ρ σ).bind fun v => cond (stor nm x) (some (.next (setName ρ x v.1), v.2)) none) = some (fl, σ')) (O : EnvOK W nm env) (R : Room k A) (S : St W X nm env ρ σ s.heap) (P : PostF W X nm env σ' fl s Q) :
    wpAny (model W.prog W.w) A (exec (.Assign [.Name x px] e p) env) Q E s := by
  refine bindK h fun v h1 h => condS h fun hst h => ?_
  have P := P.of h
  rcases swaps_cases (x := x) (px := px) (line := p.line) h1 env with hs | ⟨hs, elt, gens, sc, p', rfl⟩
  · refine wpAny_Assign_Name ((Im n (Nat.le_refl n)).ev nm e ρ σ _ _ h1 env A X E s _ O R S fun u h' tk g i r => ?_) hs
    refine store_ok O Wo (S.gr O g i) (stor_iff hst) r fun h'' tk' g' S' => ?_
    exact P h'' tk' ((KF.of_gr g).trans (KF.store g')) S'
  · cases n with
    | zero => exact nos h1
    | succ n => exact st_used Wo (Im n (Nat.le_succ n)) h1 hst hs O R S P
end
end Mine

end

section
open PySem PySem.W PySem.Calls PyProof.Rows PySem.Spec
namespace Mine

section
variable {W : Wd} {T : Tab} {G : Str → Option V} {k n : Nat} {X : Addr → Prop} {nm : Names} {env : Env} {ρ : Rho} {σ σ' : Nat} {A : Around} {E : Value → Shared → Prop} {s : Shared} {fl : Fl} {Q : Flow → Shared → Prop}

theorem ite_cases {α : Type} {c : Prop} [Decidable c] {a b r q : α} (h1 : c → a = r ∨ a = q) (h2 : ¬ c → b = r ∨ b = q) : (if c then a else b) = r ∨ (if c then a else b) = q := by
  by_cases q : c
  · rw [if_pos q]; exact h1 q
  · rw [if_neg q]; exact h2 q
theorem len_of {a b : Nat} {c : Bool} (h : ¬ ((a != b || c) = true)) : a = b := by simp at h; exact h.1
theorem fm_two {α β : Type} {f : α → Option β} {a b : α} {x y : β} {p q : Bool} (h1 : f a = if p then some x else none) (h2 : f b = if q then some y else none) (hl : (List.filterMap f [a, b]).length = 2) : List.filterMap f [a, b] = [x, y] := by
  cases p <;> cases q <;> simp_all [List.filterMap_cons]
theorem swapped_cases {x y : Str} {px py tp p' : Pos} {k9 k8 : Nat} {e₁ e₂ : Expr} (h1 : ∀ a p, e₁ ≠ .Starred a p) (h2 : ∀ a p, e₂ ≠ .Starred a p) (hc : [e₁, e₂].all (constantsAlone 8) = false) (env : Env) :
    swappedStores [.Tuple [.Name x px, .Name y py] k9 tp] (.Tuple [e₁, e₂] k8 p') env = pure none ∨ swappedStores [.Tuple [.Name x px, .Name y py] k9 tp] (.Tuple [e₁, e₂] k8 p') env = pure (some [x, y]) := by
  refine ite_cases (fun _ => .inl rfl) fun _ => ite_cases (fun _ => .inl rfl) fun _ => ite_cases (fun _ => .inl rfl) fun h3 => ite_cases (fun _ => .inl rfl) fun _ => ite_cases (fun h => absurd (hc.symm.trans h) Bool.false_ne_true) fun _ => .inr (congrArg (fun l => pure (some l)) (fm_two rfl rfl (len_of h3)))

theorem ev_nostar {e : Expr} {v : V} (h : ev T G n nm e ρ σ = some (v, σ')) : ∀ a p, e ≠ .Starred a p := by
  rintro a p rfl
  cases n <;> exact nos h

theorem st_AssignTwo (Wo : WdOk W) (I : AllS W T G k n) {x y : Str} {px py tp p' p : Pos} {k9 k8 : Nat} {e₁ e₂ : Expr} (h : ((ev T G n nm e₁ ρ σ).bind fun v => (ev T G n nm e₂ ρ v.2).bind fun w => cond (stor nm x && stor nm y && x != y && !([e₁, e₂].all (constantsAlone 8))) (some (Fl.next (setName (setName ρ x v.1) y w.1), w.2)) none) = some (fl, σ'))
    (O : EnvOK W nm env) (R : Room k A) (S : St W X nm env ρ σ s.heap) (P : PostF W X nm env σ' fl s Q) :
    wpAny (model W.prog W.w) A (exec (.Assign [.Tuple [.Name x px, .Name y py] k9 tp] (.Tuple [e₁, e₂] k8 p') p) env) Q E s := by
  refine bindK h fun vσ h1 h => bindK h fun wσ h2 h => condS h fun hc h => ?_
  have P := P.of h
  clear h
  obtain ⟨v, σ₁⟩ := vσ
  obtain ⟨w, σ'⟩ := wσ
  · dsimp only at h2
    simp only [Bool.and_eq_true, bne_iff_ne, ne_eq, Bool.not_eq_true'] at hc
    obtain ⟨⟨⟨hsx, hsy⟩, hxy⟩, hcA⟩ := hc
    have hval : ∀ (Q' : Value → Shared → Prop), (∀ t u1 u2 h' tk, IsTup h' t #[u1, u2] → Gr W s.heap h' → St W X nm env ρ σ' h' → RepV W X h' u1 v → RepV W X h' u2 w → Q' (.ref t) { s with heap := h', toks := tk }) →
        wpAny (model W.prog W.w) A (eval (.Tuple [e₁, e₂] k8 p') env) Q' E s := fun Q' hQ => by
      refine wpAny_Tuple (args_cons (I.ev nm e₁ ρ σ _ _ h1 env A X E s _ O R S fun u1 h1' tk1 g1 i1 r1 => ?_) (ev_star h1 [e₂] env))
      have S1 := S.gr O g1 i1
      refine args_cons (I.ev nm e₂ ρ _ _ _ h2 env A X E _ _ O R S1 fun u2 h2' tk2 g2 i2 r2 => args_nil ⟨by show 2 ≤ sizeLine; rw [sizeLine_eq]; decide, ?_⟩) (ev_star h2 [] env)
      have S2 := S1.gr O g2 i2
      have kp := push_keeps h2' { cls := .type "tuple", data := .seq [u1, u2].toArray }
      refine hQ _ u1 u2 _ tk2 ⟨_, Heap.get?_push_size _ rfl, rfl, 0, rfl⟩ ((g1.trans g2).trans (Gr.of_keeps kp)) (S2.keeps O Wo kp) ?_ ?_
      · exact RepV.map (fun b o hx e => ⟨hx, kp b o e⟩) (r1.gr S1.x g2)
      · exact RepV.map (fun b o hx e => ⟨hx, kp b o e⟩) r2
    rcases swapped_cases (x := x) (y := y) (px := px) (py := py) (tp := tp) (p' := p') (k9 := k9) (k8 := k8) (ev_nostar h1) (ev_nostar h2) hcA env with hw | hw
    · have hae : assignEach [.Name x px, .Name y py] env = [(false, assign (.Name x px) env), (false, assign (.Name y py) env)] := rfl
      refine Assign_Tuple (hval _ fun t u1 u2 h' tk ht g S' r1 r2 => ?_) rfl hw
      refine assign_Tuple_tuple (s := { s with heap := h', toks := tk }) R.1 ht (by rw [hae]; rfl) (by rw [hae]; rfl) fun h3 he => ?_
      have kp : ∀ b o, h'.get? b = some o → h3.get? b = some o := fun b o e => he b o (Nat.ne_of_lt (Heap.lt_size e)) e
      have S3 := S'.keeps O Wo kp
      have m3 : ∀ b o, ¬ X b → h'.get? b = some o → ¬ X b ∧ h3.get? b = some o := fun b o hb e => ⟨hb, kp b o e⟩
      show wpAny _ _ (assignInOrder [assign (.Name x px) env, assign (.Name y py) env] [u1, u2]) _ _ _
      have r1' : RepV W X h3 u1 v := r1.map m3
      have r2' : RepV W X h3 u2 w := r2.map m3
      refine assignInOrder_cons (wpAny_assign_Name (store_ok O Wo S3 (stor_iff hsx) r1' fun h4 tk4 g4 S4 => ?_))
      have r2'' : RepV W X h4 u2 w := r2'.map fun b o hb e => ⟨hb, g4 b o (fun q => hb (S.l.own b q.own)) e⟩
      refine assignInOrder_cons (wpAny_assign_Name (store_ok O Wo S4 (stor_iff hsy) r2'' fun h5 tk5 g5 S5 => ?_))
      exact wpAny_pure (P h5 tk5 (fun b o q1 q2 e => g5 b o q2 (g4 b o q2 (kp b o (g b o q1 e)))) S5)
    · refine Assign_Tuple_swapped (hval _ fun t u1 u2 h' tk ht g S' r1 r2 => ?_) rfl hw
      show wpAny _ _ (unpackItems (.ref t) (#[u1, u2] : Array Value).size none) _ _ _
      refine unpackItems_tuple (items := #[u1, u2]) (s := { s with heap := h', toks := tk }) R.1 ht fun h3 he => ?_
      have kp : ∀ b o, h'.get? b = some o → h3.get? b = some o := fun b o e => he b o (Nat.ne_of_lt (Heap.lt_size e)) e
      have S3 := S'.keeps O Wo kp
      have m3 : ∀ b o, ¬ X b → h'.get? b = some o → ¬ X b ∧ h3.get? b = some o := fun b o hb e => ⟨hb, kp b o e⟩
      show wpAny _ _ (assignInOrder [bindName env y, bindName env x] [u2, u1]) _ _ _
      have r1' : RepV W X h3 u1 v := r1.map m3
      have r2' : RepV W X h3 u2 w := r2.map m3
      refine assignInOrder_cons (wpAny_bindName (store_ok O Wo S3 (stor_iff hsy) r2' fun h4 tk4 g4 S4 => ?_))
      have r1'' : RepV W X h4 u1 v := r1'.map fun b o hb e => ⟨hb, g4 b o (fun q => hb (S.l.own b q.own)) e⟩
      refine assignInOrder_cons (wpAny_bindName (store_ok O Wo S4 (stor_iff hsx) r1'' fun h5 tk5 g5 S5 => ?_))
      refine wpAny_pure (P h5 tk5 (fun b o q1 q2 e => g5 b o q2 (g4 b o q2 (kp b o (g b o q1 e)))) (S5.fewer fun z u hz => ?_))
      rw [lookup_set, lookup_set] at hz ⊢
      by_cases q1 : z = x
      · subst q1
        rw [if_neg hxy] at hz
        rw [if_pos rfl] at hz ⊢
        exact hz
      · rw [if_neg q1]
        rw [if_neg q1] at hz
        exact hz

theorem st_AssignTup (Wo : WdOk W) (I : AllS W T G k n) {ts : List Expr} {k9 : Nat} {tp p : Pos} {e : Expr} (h : (cond (isTup e) none ((ev T G n nm e ρ σ).bind fun v => (dOf? v.1).bind fun d => (bindT nm (.Tuple ts k9 tp) d ρ).bind fun ρ₁ => some (Fl.next ρ₁, v.2))) = some (fl, σ'))
    (O : EnvOK W nm env) (R : Room k A) (S : St W X nm env ρ σ s.heap) (P : PostF W X nm env σ' fl s Q) : wpAny (model W.prog W.w) A (exec (.Assign [.Tuple ts k9 tp] e p) env) Q E s := by
  refine condN h fun hnt h => bindK h fun v h1 h => bindK h fun d hd h => bindK h fun ρ₁ hb h => ?_
  have P := P.of h
  have hs : swapsWithSole [.Tuple ts k9 tp] e p.line env = pure false := by
    clear h1 hnt
    induction e using Expr.casesOn <;> rfl
  have hw : swappedStores [.Tuple ts k9 tp] e env = pure none := by
    clear h1 hs
    induction e using Expr.casesOn <;> first | rfl | exact fls hnt.symm
  refine Assign_Tuple (I.ev nm e ρ σ _ _ h1 env A X E s _ O R S fun u h' tk g i r => ?_) hs hw
  have r := dOf_rep hd r
  refine assign_ok O Wo R.1 hb (s := { s with heap := h', toks := tk }) (S.gr O g i) (ItemAt.of r (bindT_tup hb)) fun h'' tk' g' S' => ?_
  exact P h'' tk' ((KF.of_gr g).trans (KF.store g')) S'
end
end Mine

end

section
open PySem PySem.W PySem.Calls PyProof.Rows PySem.Spec
namespace Mine

section
variable {W : Wd} {T : Tab} {G : Str → Option V} {k n : Nat} {X Y N : Addr → Prop} {nm : Names} {env : Env} {ρ : Rho} {σ σ' : Nat} {A : Around} {E : Value → Shared → Prop} {s : Shared} {fl : Fl} {Q : Flow → Shared → Prop}

noncomputable def stepF (T : Tab) (G : Str → Option V) (n : Nat) (nm : Names) (t : Expr) (body : List Stmt) : D → Rho → Nat → Option (Fl × Nat) := fun d ρ s => (bindT nm t d ρ).bind fun ρ₁ => exs T G n nm body ρ₁ s

/-- what holds at each turn -/
inductive FInv (W : Wd) (T : Tab) (G : Str → Option V) (n : Nat) (Y N : Addr → Prop) (nm : Names) (env : Env) (σ' : Nat) (t : Expr) (body : List Stmt) (fl : Fl) (items : List D) (Stt : Nat → Heap → Prop) (s : Shared) (m : Nat) (s' : Shared) : Prop
  | mk (i : Nat) (h : Heap) (tk : Nat) (ρi : Rho) (σi : Nat) (hm : m = items.length - i) (hi : i ≤ items.length) (hs : s' = { s with heap := h, toks := tk }) (hov : overF (stepF T G n nm t body) (items.drop i) ρi σi = some (fl, σ')) (st : Stt i h)
    (S : St W Y nm env ρi σi h) (kp : ∀ b o, b ≠ W.fd → ¬ Mod nm env b → ¬ N b → s.heap.get? b = some o → h.get? b = some o) : FInv W T G n Y N nm env σ' t body fl items Stt s m s'

theorem for_loop (Wo : WdOk W) (IXs : ExsS W T G k n) {t : Expr} {body : List Stmt} {I : Addr} {items : List D} {Stt : Nat → Heap → Prop} {Md : Nat → Value → Heap → Prop} {R : Result → Shared → Prop}
    (hov : overF (stepF T G n nm t body) items ρ σ = some (fl, σ')) (O : EnvOK W nm env) (Rm : Room k A) (M : Itr W A Y t I N items Stt Md)
    (hXY : ∀ b, X b → Y b) (hXN : ∀ b, X b → ¬ N b) (st : Stt 0 s.heap) (S : St W Y nm env ρ σ s.heap) (hX : X W.fd) (hO : ∀ b, Own env b → X b)
    (hR : match fl with
      | .next ρ' => ∀ h' tk, (∀ b o, b ≠ W.fd → ¬ Mod nm env b → ¬ N b → s.heap.get? b = some o → h'.get? b = some o) → St W X nm env ρ' σ' h' → R (.ok .next) { s with heap := h', toks := tk }
      | .ret v => ∀ u h' tk, (∀ b o, b ≠ W.fd → ¬ Mod nm env b → ¬ N b → s.heap.get? b = some o → h'.get? b = some o) → Inv W σ' h' → RepV W X h' u v → R (.ok (.ret u)) { s with heap := h', toks := tk }) :
    codeAny (model W.prog W.w) A (.forLoop t (.ref I) body [] env) R s := by
  have hNfd : ¬ N W.fd := hXN _ hX
  have hNo : ∀ b, Own env b → ¬ N b := fun b hb => hXN b (hO b hb)
  have hNY : ∀ b, N b → Y b := M.sub
  refine codeAny_forLoop_any (FInv W T G n Y N nm env σ' t body fl items Stt s) ?_ items.length (.mk 0 s.heap s.toks ρ σ rfl (Nat.zero_le _) rfl hov st S fun _ _ _ _ _ e => e)
  rintro m s' ⟨i, h, tk, ρi, σi, rfl, hi, rfl, hov', st', S', kp⟩
  rcases Nat.lt_or_ge i items.length with hlt | hge
  · have hd : items[i]? = some items[i] := List.getElem?_eq_getElem hlt
    rw [List.drop_eq_getElem_cons hlt] at hov'
    generalize items[i] = d0 at hd hov'
    refine bindK hov' fun fσ hst hov' => bindK hst fun ρ₁ hb hex => ?_
    obtain ⟨f1, σ₁⟩ := fσ
    · 
      refine M.item i { s with heap := h, toks := tk } _ _ hlt st' fun v h1 tk1 md1 k1 => ?_
      refine M.go i v d0 { s with heap := h1, toks := tk1 } _ _ hd (bindT_tup hb) md1 fun h2 st2 ia2 k2 => ?_
      have k12 : ∀ b o, ¬ N b → h.get? b = some o → h2.get? b = some o := fun b o q e => k2 b o q (k1 b o q e)
      have S2 : St W Y nm env ρi σi h2 := S'.turn Wo k12 (M.live _ _ st2) hNY hNfd hNo
      refine assign_ok O Wo Rm.1 hb (s := { s with heap := h2, toks := tk1 }) S2 ia2 fun h3 tk3 k3 S3 => ?_
      have st3 : Stt (i + 1) h3 := M.frame _ _ _ st2 fun b o hb e => k3 b o (fun q => hb.elim (fun z => hNo b q.own z) fun z => z (hXY b (hO b q.own))) e
      have kp3 : ∀ b o, b ≠ W.fd → ¬ Mod nm env b → ¬ N b → s.heap.get? b = some o → h3.get? b = some o := fun b o q1 q2 q3 e => k3 b o q2 (k12 b o q3 (kp b o q1 q2 q3 e))
      refine IXs nm body ρ₁ σi f1 σ₁ hex env A Y _ { s with heap := h3, toks := tk3 } _ O Rm S3 ?_
      cases f1 with
      | next ρ₂ =>
        intro h4 tk4 g4 S4
        have st4 : Stt (i + 1) h4 := M.frame _ _ _ st3 fun b o hb e => g4 b o (fun q => hb.elim (fun z => hNfd (q ▸ z)) fun z => z (q ▸ hXY _ hX)) (fun q => hb.elim (fun z => hNo b q.own z) fun z => z (hXY b (hO b q.own))) e
        exact ⟨items.length - (i + 1), Nat.sub_lt_sub_left hlt (Nat.lt_succ_self i), .mk (i + 1) h4 tk4 ρ₂ σ₁ rfl hlt rfl hov' st4 S4 fun b o q1 q2 q3 e => g4 b o q1 q2 (kp3 b o q1 q2 q3 e)⟩
      | ret v9 =>
        refine pairK hov' fun e1 e2 => ?_
        subst e1; subst e2
        exact fun u h4 tk4 g4 i4 r4 => hR u h4 tk4 (fun b o q1 q2 q3 e => g4 b o q1 q2 (kp3 b o q1 q2 q3 e)) i4 (r4.wide hXY)
  · have hie : i = items.length := Nat.le_antisymm hi hge
    subst hie
    rw [List.drop_length] at hov'
    refine pairK hov' fun e1 e2 => ?_
    subst e1; subst e2
    refine M.done { s with heap := h, toks := tk } _ _ st' fun h1 tk1 k1 => wpAny_execs_nil ?_
    exact hR h1 tk1 (fun b o q1 q2 q3 e => k1 b o q3 (kp b o q1 q2 q3 e)) (S'.leave Wo k1 hNY hXY hXN hX hO)

theorem st_For (Wo : WdOk W) (I9 : AllS W T G k n) (IXs : ExsS W T G k n) {t it : Expr} {body els : List Stmt} {p : Pos} (h : ex T G (n + 1) nm (.For t it body els p) ρ σ = some (fl, σ')) (O : EnvOK W nm env) (R : Room k A) (S : St W X nm env ρ σ s.heap) (P : PostF W X nm env σ' fl s Q) :
    wpAny (model W.prog W.w) A (exec (.For t it body els p) env) Q E s := by
  refine bindK h fun _ he h => bindK h fun iσ h1 h => ?_
  obtain ⟨items, σ₁⟩ := iσ
  rw [nil_inv he]
  refine wpAny_For ?_ (evI_fold h1 env)
  refine I9.evI nm t it ρ σ _ _ h1 env A X E s _ O R S fun I N h' tk fM fN g i => ?_
  obtain ⟨Stt, Md, M, st⟩ := fM (fun b => X b ∨ N b) (fun b hb => hb) (fun b hb => hb.elim .inl fun q => .inr (.inl q))
  have S1 : St W (fun b => X b ∨ N b) nm env ρ σ₁ h' := S.grow O g i (fun b hb => .inl hb) fun b hb => hb.imp id fun q => fN b q
  have xN : ∀ b, X b → ¬ N b := fun b hb q => by
    obtain ⟨o, e⟩ := S.x.at_ b hb
    rw [(fN b q).1] at e; cases e
  have kN : ∀ {b : Addr} {o : Obj}, s.heap.get? b = some o → ¬ N b := fun e q => by
    rw [(fN _ q).1] at e; cases e
  refine for_loop (s := { s with heap := h', toks := tk }) (X := X) Wo IXs h O R M (fun b hb => .inl hb) xN st S1 S.x.fd S.l.own ?_
  cases fl with
  | next ρ' => exact fun h2 tk2 kp S2 => P h2 tk2 (fun b o q1 q2 e => kp b o q1 q2 (kN e) (g b o q1 e)) S2
  | ret v => exact fun u h2 tk2 kp i2 r2 => P u h2 tk2 (fun b o q1 q2 e => kp b o q1 q2 (kN e) (g b o q1 e)) i2 r2

theorem ex_sound (Wo : WdOk W) (Im : ∀ m, m ≤ n → AllS W T G k m) (IXs : ExsS W T G k n) : ExS W T G k (n + 1) := by
  intro nm st ρ σ fl σ' h env A X E s Q O R S P
  have I := Im n (Nat.le_refl n)
  induction st using Stmt.casesOn
  case Assign ts e p =>
    refine bindK h fun t ht h => ocK h (fun _ h => bindK h fun x hx h => ?_) fun tt htt h => ocK h (fun _ h => ?_) fun z hz h9 => ?_
    · rw [one_inv ht, name_inv hx]
      exact st_AssignName Wo Im h O R S P
    · rw [one_inv ht, tuple_inv htt]
      exact st_AssignTup Wo I h O R S P
    · rw [one_inv ht, tuple_inv htt]
      obtain ⟨px, py, k8, p', e1, rfl⟩ := pair_inv hz
      rw [e1]
      exact st_AssignTwo Wo I h9 O R S P
  case If => exact st_If I IXs h O R S P
  case Return => exact st_Return I h O R S P
  case For => exact st_For Wo I IXs h O R S P
  all_goals exact nos h

theorem stm_sound (Wo : WdOk W) (Go : GOK W G) (TO : TabOK W k T) (EO : EvOK W) (n : Nat) : ExS W T G k n ∧ ExsS W T G k n := by
  induction n with
  | zero =>
    refine ⟨?_, ?_⟩
    · intro nm e ρ σ v σ' h; exact nos h
    · intro nm e ρ σ v σ' h; exact nos h
  | succ n ih => exact ⟨ex_sound Wo (fun m _ => all_sound Wo Go TO EO m) ih.2, exs_sound ih.1 ih.2⟩
end
end Mine

end

section
open PySem PySem.W PySem.Calls PyProof.Rows PySem.Spec
namespace Mine

/-- what the proofs ask of a def's own table of names -/
noncomputable def defOK (df : Def) : Bool :=
  df.names.all (fun y => y.2 != .free && !(y.1 == ("__debug__" : Str)) && !(y.1 == ("__classdict__" : Str))) && df.params.all (fun x => df.names.lookup x == some .local || df.names.lookup x == some .cell) && decide df.params.Nodup

structure FnOK (W : Wd) (v : Value) (df : Def) : Prop where
  ex : ∃ a o fd, v = .ref a ∧ W.h₀.get? a = some o ∧ o.data = .func fd ∧ W.h₀.CodeRec fd.code fd.qualname ∧ fd.body = .stmts df.body ∧ fd.closure = [] ∧ fd.globals = mainGlobals ∧ fd.builtins = builtinsNs ∧
    fd.scope.kind = .function ∧ fd.scope.isCoroutine = false ∧ fd.scope.isGenerator = false ∧ fd.scope.names = df.names ∧ ∀ vals : List Value, vals.length = df.params.length → bindArgs fd ⟨vals, []⟩ = pure (df.params.zip vals)

theorem bindL_out {kf : Str → Option NameKind} {x : Str} : ∀ (binds : List (Str × Value)) (m : Str → Option Value), x ∉ binds.map (·.1) → bindL kf binds m x = m x := by
  intro binds
  induction binds with
  | nil => intro m _; rfl
  | cons y r ih =>
    obtain ⟨n, v⟩ := y
    intro m h
    simp only [List.map_cons, List.mem_cons, not_or] at h
    unfold bindL
    rw [ih _ h.2]
    split
    · simp [h.1]
    · rfl
theorem bindL_in {kf : Str → Option NameKind} {x : Str} {u : Value} (hk : kf x = some .local) : ∀ (binds : List (Str × Value)) (m : Str → Option Value), (binds.map (·.1)).Nodup → binds.lookup x = some u → bindL kf binds m x = some u := by
  intro binds
  induction binds with
  | nil => intro m _ h; simp at h
  | cons y r ih =>
    obtain ⟨n, v⟩ := y
    intro m hn h
    simp only [List.map_cons, List.nodup_cons] at hn
    unfold bindL
    rw [List.lookup_cons] at h
    split at h
    · rename_i e
      obtain rfl := eq_of_beq e
      cases h
      rw [bindL_out r _ hn.1, if_pos hk]
      simp
    · exact ih _ hn.2 h
theorem bindC_out {kf : Str → Option NameKind} {x : Str} : ∀ (binds : List (Str × Value)) (m : Str → Option Value), x ∉ binds.map (·.1) → bindC kf binds m x = m x := by
  intro binds
  induction binds with
  | nil => intro m _; rfl
  | cons y r ih =>
    obtain ⟨n, v⟩ := y
    intro m h
    simp only [List.map_cons, List.mem_cons, not_or] at h
    unfold bindC
    rw [ih _ h.2]
    split
    · rfl
    · simp [h.1]
theorem bindC_in {kf : Str → Option NameKind} {x : Str} {u : Value} (hk : kf x ≠ some .local) : ∀ (binds : List (Str × Value)) (m : Str → Option Value), (binds.map (·.1)).Nodup → binds.lookup x = some u → bindC kf binds m x = some u := by
  intro binds
  induction binds with
  | nil => intro m _ h; simp at h
  | cons y r ih =>
    obtain ⟨n, v⟩ := y
    intro m hn h
    simp only [List.map_cons, List.nodup_cons] at hn
    unfold bindC
    rw [List.lookup_cons] at h
    split at h
    · rename_i e
      obtain rfl := eq_of_beq e
      cases h
      rw [bindC_out r _ hn.1, if_neg hk]
      simp
    · exact ih _ hn.2 h

theorem cells_mono {x : Str} : ∀ (names : List (Str × NameKind)) (n : Nat) (acc : List (Str × Addr)), (acc.lookup x).isSome = true → ((cellsFrom n names acc).lookup x).isSome = true := by
  intro names
  induction names with
  | nil => intro n acc h; exact h
  | cons y r ih =>
    obtain ⟨z, q⟩ := y
    intro n acc h
    unfold cellsFrom
    split
    · refine ih _ _ ?_
      rw [List.lookup_cons]
      split
      · rfl
      · exact h
    · exact ih _ _ h
theorem cells_have {x : Str} : ∀ (names : List (Str × NameKind)) (n : Nat) (acc : List (Str × Addr)), (x, NameKind.cell) ∈ names → ((cellsFrom n names acc).lookup x).isSome = true := by
  intro names
  induction names with
  | nil => intro n acc h; simp at h
  | cons y r ih =>
    obtain ⟨z, q⟩ := y
    intro n acc h
    unfold cellsFrom
    rcases List.mem_cons.mp h with e | h
    · cases e
      rw [if_pos (by rfl)]
      exact cells_mono r _ _ (by rw [List.lookup_cons]; simp)
    · split
      · exact ih _ _ h
      · exact ih _ _ h

theorem pair_inj {cs : List (Str × Addr)} (h : cs.Pairwise fun x y => x.2 ≠ y.2) {x y : Str} {c : Addr} (h1 : (x, c) ∈ cs) (h2 : (y, c) ∈ cs) : x = y := by
  induction cs with
  | nil => simp at h1
  | cons z r ih =>
    rw [List.pairwise_cons] at h
    rcases List.mem_cons.mp h1 with e1 | h1
    · rcases List.mem_cons.mp h2 with e2 | h2
      · have := e1.trans e2.symm
        cases this; rfl
      · exact absurd (by rw [← e1]) (h.1 _ h2)
    · rcases List.mem_cons.mp h2 with e2 | h2
      · exact absurd (by rw [← e2]) (h.1 _ h1)
      · exact ih h.2 h1 h2

theorem zip_lookup {W : Wd} {X : Addr → Prop} {h : Heap} {x : Str} {v : V} : ∀ {ps : List Str} {us : List Value} {vs : List V}, RepVs W X h us vs → (ps.zip vs).lookup x = some v → ∃ u, (ps.zip us).lookup x = some u ∧ RepV W X h u v := by
  intro ps
  induction ps with
  | nil => intro us vs _ h; simp at h
  | cons p ps ih =>
    intro us vs r hl
    cases r with
    | nil => simp at hl
    | cons h1 r =>
      simp only [List.zip_cons_cons, List.lookup_cons] at hl ⊢
      split at hl
      · cases hl; exact ⟨_, rfl, h1⟩
      · exact ih r hl
theorem RepVs.length {W : Wd} {X : Addr → Prop} {h : Heap} {us : List Value} {vs : List V} (r : RepVs W X h us vs) : us.length = vs.length := by
  induction r with
  | nil => rfl
  | cons _ _ ih => simp [ih]

section
variable {W : Wd} {T : Tab} {G : Str → Option V} {k n : Nat} {X : Addr → Prop} {A : Around} {E : Value → Shared → Prop} {s : Shared} {σ σ' : Nat}

/-- the run of a def's body -/
noncomputable def Runs (W : Wd) (k : Nat) (df : Def) (vs : List V) (σ : Nat) (v : V) (σ' : Nat) : Prop := ∀ (env : Env) (A : Around) (X : Addr → Prop) (E : Value → Shared → Prop) (s : Shared) (Q : Flow → Shared → Prop),
  EnvOK W df.names env → Room k A → St W X df.names env (df.params.zip vs) σ s.heap → PostF W X df.names env σ' (.ret v) s Q → wpAny (model W.prog W.w) A (execs df.body env) Q E s

theorem fn_open (Wo : WdOk W) {f : Value} {df : Def} (F : FnOK W f df) (hok : defOK df = true) {vs : List V} (hlen : df.params.length = vs.length) (R : Room (k + 1) A) {us : List Value} {Rr : Result → Shared → Prop} (x : XOk W X s.heap) (i : Inv W σ s.heap) (r : RepVs W X s.heap us vs)
    (run : ∀ (env : Env) (A' : Around) (X' : Addr → Prop) (E' : Value → Shared → Prop) (h₁ : Heap) (tk : Nat), EnvOK W df.names env → Room k A' → (∀ b, X b → X' b) → (∀ b, X' b → X b ∨ s.heap.get? b = none) → (∀ b o, s.heap.get? b = some o → h₁.get? b = some o) → (∀ b, Own env b → s.heap.get? b = none) →
      St W X' df.names env (df.params.zip vs) σ h₁ → wpAny (model W.prog W.w) A' (execs df.body env) (fun f s' => Rr (.ok (.ret (match f with | .ret v => v | _ => .none))) s') E' { s with heap := h₁, toks := tk }) :
    codeAny (model W.prog W.w) A (.call f ⟨us, []⟩) Rr s := by
  obtain ⟨a, o, fd, rfl, ho, hdata, hcd, hbody, hclo, hglob, hblt, hkind, hco, hgen, hnames, hbind⟩ := F.ex
  unfold defOK at hok
  rw [Bool.and_eq_true, Bool.and_eq_true, List.all_eq_true, List.all_eq_true, decide_eq_true_eq] at hok
  obtain ⟨⟨hn1, hn2⟩, hnd⟩ := hok
  have hmem : ∀ y ∈ df.names, y.2 ≠ .free ∧ (y.1 == ("__debug__" : Str)) = false ∧ (y.1 == ("__classdict__" : Str)) = false := fun y hy => by
    have := hn1 y hy
    simp only [Bool.and_eq_true, bne_iff_ne, ne_eq, Bool.not_eq_true'] at this
    exact ⟨this.1.1, this.1.2, this.2⟩
  have hcr : s.heap.CodeRec fd.code fd.qualname := by
    obtain ⟨c, oc, vs, tq, h1, h2, h3, h4⟩ := hcd
    exact ⟨c, oc, vs, tq, h1, i.base _ _ h2, h3, h4⟩
  have hul : us.length = df.params.length := by rw [r.length, hlen]
  have hfst : (df.params.zip us).map (·.1) = df.params := by
    rw [← List.unzip_fst, List.unzip_zip (by omega)]
  have hpar : ∀ y ∈ df.params.zip us, fd.scope.names.lookup y.1 = some .local ∨ fd.scope.names.lookup y.1 = some .cell := fun y hy => by
    have : y.1 ∈ df.params := by rw [← hfst]; exact List.mem_map_of_mem hy
    have := hn2 _ this
    rw [hnames]
    simpa using this
  refine (codeAny_call_cells (fd := fd) (body := df.body) (binds := df.params.zip us) (by have := R.2.1; unfold recursionLimit; omega) (i.base _ _ ho) hdata (Wo.lim.keeps fun b o e => i.base b o e) hcr hbody (hbind us hul) hclo (fun y hy => ?_) (fun s₁ IC => ?_) hco hgen hkind)
  · rcases hpar y hy with q | q
    · exact .inl q
    · exact .inr ⟨q, cells_have _ _ _ (lookup_mem q)⟩
  · obtain ⟨h₁, tk₁, rfl, kp⟩ := IC.done
    have hL : (callEnvC fd s.heap.objs.size a).locals = s.heap.objs.size := rfl
    have hcells : (callEnvC fd s.heap.objs.size a).cells = cellsFrom (s.heap.objs.size + 1) fd.scope.names [] := rfl
    have hko : ∀ x, (callEnvC fd s.heap.objs.size a).kindOf x = df.names.lookup x := fun x => by rw [← hnames]; rfl
    have fdlt := i.fd_lt
    have habove : ∀ x c, (callEnvC fd s.heap.objs.size a).cells.lookup x = some c → s.heap.objs.size < c := fun x c e => IC.above x c (lookup_mem e)
    have O : EnvOK W df.names (callEnvC fd s.heap.objs.size a) := {
      kind := hkind
      glob := hglob
      blt := hblt
      loc := fun x hx => (hko x).trans hx
      gl := fun x hx => (hko x).trans hx
      celS := fun x hx => (hko x).trans hx
      cel := fun x hx => absurd rfl (hmem _ (lookup_mem hx)).1
      noD := fun x q hx => (hmem _ (lookup_mem hx)).2.1
      noC := fun x q hx => (hmem _ (lookup_mem hx)).2.2
      inj := fun x y c h1 h2 => pair_inj IC.apart (lookup_mem h1) (lookup_mem h2)
      apart := fun x c e => by rw [hL]; exact Nat.ne_of_gt (habove x c e)
      fdL := by rw [hL]; exact Nat.ne_of_gt fdlt
      fdC := fun x c e => Nat.ne_of_gt (Nat.lt_trans fdlt (habove x c e)) }
    have hownat : ∀ b, Own (callEnvC fd s.heap.objs.size a) b → s.heap.get? b = none ∧ ∃ o, h₁.get? b = some o := fun b hb => by
      rcases hb with rfl | ⟨x, e⟩
      · rw [hL]
        refine ⟨get_end _ (Nat.le_refl _), ?_⟩
        obtain ⟨o, _, _, e, _⟩ := IC.toInCall.ns
        exact ⟨o, e⟩
      · refine ⟨get_end _ (Nat.le_of_lt (habove x b e)), ?_⟩
        obtain ⟨o, e', _⟩ := IC.cell x b e
        exact ⟨o, e'⟩
    have hY : ∀ b, (X b ∨ Own (callEnvC fd s.heap.objs.size a) b) → X b ∨ (s.heap.get? b = none ∧ ∃ o, h₁.get? b = some o) := fun b hb => hb.imp id (hownat b)
    have x1 : XOk W (fun b => X b ∨ Own (callEnvC fd s.heap.objs.size a) b) h₁ := x.shut i kp (fun b hb => .inl hb) hY
    have i1 : Inv W σ h₁ := i.keeps Wo kp
    have r1 : RepVs W (fun b => X b ∨ Own (callEnvC fd s.heap.objs.size a) b) h₁ us vs := r.map (shut_map hY kp)
    have S1 : St W (fun b => X b ∨ Own (callEnvC fd s.heap.objs.size a) b) df.names (callEnvC fd s.heap.objs.size a) (df.params.zip vs) σ h₁ := ⟨x1, i1, {
      ns := ⟨_, IC.toInCall.ns, fun y v hv hy => by
        obtain ⟨u, hu, ru⟩ := zip_lookup r1 hv
        exact ⟨u, bindL_in ((hko y).trans hy) _ _ (by rw [hfst]; exact hnd) hu, ru⟩⟩
      cell := fun y hy => by
        have hyc : df.names.lookup y = some .cell := hy.elim id fun q => absurd rfl (hmem _ (lookup_mem q)).1
        have hs := cells_have (x := y) fd.scope.names (s.heap.objs.size + 1) [] (by rw [hnames]; exact lookup_mem hyc)
        obtain ⟨c, hc⟩ := Option.isSome_iff_exists.mp hs
        refine ⟨c, _, hc, IC.cell y c hc, fun v hv => ?_⟩
        obtain ⟨u, hu, ru⟩ := zip_lookup r1 hv
        exact ⟨u, bindC_in (by rw [hko y, hyc]; simp) _ _ (by rw [hfst]; exact hnd) hu, ru⟩
      own := fun b hb => .inr hb }⟩
    have Rm : Room k (A.deeper (callEnvC fd s.heap.objs.size a)) := by
      obtain ⟨q1, q2, q3⟩ := R
      refine ⟨q1, ?_, ?_⟩
      · show A.depth + 1 + 10 * k + 10 ≤ 900
        omega
      · show A.units + 3 + 50 * k + 300 ≤ 9000
        omega
    exact run _ _ _ _ h₁ tk₁ O Rm (fun b => .inl) (fun b hb => hb.imp id fun q => (hownat b q).1) kp (fun b hb => (hownat b hb).1) S1

theorem fn_code (Wo : WdOk W) {f : Value} {df : Def} (F : FnOK W f df) (hok : defOK df = true) {vs : List V} {v : V} (hlen : df.params.length = vs.length)
    (run : Runs W k df vs σ v σ') (R : Room (k + 1) A) {us : List Value} {Q : Value → Shared → Prop} (x : XOk W X s.heap) (i : Inv W σ s.heap) (r : RepVs W X s.heap us vs) (P : PostV W X σ' v s Q) :
    CallC W A f us Q E s :=
  fn_open Wo F hok hlen R x i r fun env A' X' E' h₁ tk O Rm hX _ kp hown S1 => run env A' X' E' { s with heap := h₁, toks := tk } _ O Rm S1 fun u h2 tk2 kf i2 r2 =>
    P u h2 tk2 (fun b o q e => kf b o q (fun z => by rw [hown b z.own] at e; cases e) (kp b o e)) i2 (r2.wide hX)

theorem fn_enter (Wo : WdOk W) {f : Value} {df : Def} (F : FnOK W f df) (hok : defOK df = true) {vs : List V} {v : V} (hlen : df.params.length = vs.length)
    (run : Runs W k df vs σ v σ') (R : Room (k + 1) A) {us : List Value} {Q : Value → Shared → Prop} (x : XOk W X s.heap) (i : Inv W σ s.heap) (r : RepVs W X s.heap us vs) (P : PostV W X σ' v s Q) :
    wpAny (model W.prog W.w) A (call f us) Q E s := wpAny_call (fn_code Wo F hok hlen run R x i r P)

theorem runs_exs (Wo : WdOk W) (Go : GOK W G) (TO : TabOK W k T) (EO : EvOK W) {df : Def} {vs : List V} {v : V} {fuel : Nat} (h : exs T G fuel df.names df.body (df.params.zip vs) σ = some (.ret v, σ')) : Runs W k df vs σ v σ' :=
  fun env A X E s Q O R S P => (stm_sound Wo Go TO EO fuel).2 df.names df.body _ σ _ σ' h env A X E s Q O R S P

theorem fn_cw {f : Value} {df : Def} (F : FnOK W f df) : CW W f := by
  obtain ⟨a, o, fd, rfl, ho, hdata, _⟩ := F.ex
  intro A E s env pos e rest first Q hst hpl h
  rw [hst] at h ⊢
  exact callWith_function (o := o) (fd := fd) (evalArgs_plain (wpAny_mono h (fun vs s₁ h₁ => ⟨⟨h₁.1 _ _ ho, hdata⟩, h₁.2⟩) fun _ _ x => x))
end
end Mine

end

section
open PySem PySem.W PySem.Calls PyProof.Rows PySem.Spec
namespace Mine

theorem Room.le {k k' : Nat} {A : Around} (h : k ≤ k') (R : Room k' A) : Room k A := ⟨R.1, by have := R.2.1; omega, by have := R.2.2; omega⟩

structure FnsOK (W : Wd) (defs : List (Str × Def)) : Prop where
  all : ∀ f, NEED.contains f = true → ∀ df, defs.lookup (defName f) = some df → FnOK W (W.fv f) df ∧ defOK df = true

noncomputable def JoinOK (W : Wd) (k : Nat) (T : Tab) (df : Def) : Prop := ∀ s t g v σ σ', groupFrom t [] = some g → exs T glob FUEL df.names (df.body.drop 2) ((("begun" : Str), V.grp g) :: df.params.zip [.d (.tup s), .d (.tup t)]) σ = some (.ret v, σ') →
  df.params.length = 2 ∧ Runs W k df [.d (.tup s), .d (.tup t)] σ v σ'

noncomputable def DrawOK (W : Wd) (k : Nat) (T : Tab) (df : Def) : Prop := ∀ cs wide v σ σ', exs T glob FUEL df.names (df.body.drop 1) (df.params.zip [.feed cs, .d (.int wide)]) (σ + 1) = some (.ret v, σ') → df.params.length = 2 ∧ Runs W k df [.feed cs, .d (.int wide)] σ v σ'

/-- a def that is called: it runs -/
theorem tab_runs {W : Wd} (Wo : WdOk W) (Go : GOK W glob) (EO : EvOK W) {defs : List (Str × Def)} {k : Nat}
    (J : ∀ k T, TabOK W k T → ∀ df, defs.lookup ("join" : Str) = some df → JoinOK W k T df)
    (Dr : ∀ k T, TabOK W k T → ∀ df, defs.lookup ("_law_draw" : Str) = some df → DrawOK W k T df) (ih : TabOK W (k + 2) (tab defs k)) {f : Str} {vs : List V} {σ σ' : Nat} {v : V} {df : Def} (hd : defs.lookup (defName f) = some df)
    (h : tabV (tab defs k) f vs σ df = some (v, σ')) : df.params.length = vs.length ∧ Runs W (k + 2) df vs σ v σ' := by
  have ret : ∀ {o : Option (Fl × Nat)} {P : Prop}, retV o = some (v, σ') → (o = some (.ret v, σ') → P) → P := fun {o P} h kk => bindK h fun r h1 h => bindK h fun v' h2 h => bindK h fun d h3 h => pairK h fun e1 e2 => kk (by
    rw [h1, ← e1, ← dOf_inv h3, ← retOf_inv h2, ← e2])
  refine condK h (fun hj h => ?_) fun _ h => condK h (fun hw h => ?_) fun _ h => ifS h fun hl h => ret h fun hex => ⟨hl, runs_exs Wo Go ih EO hex⟩
  · refine bindK h fun ab hab h => bindK h fun x hx h => bindK h fun s hs h => bindK h fun y hy h => bindK h fun t ht h => bindK h fun g hg h => ret h fun hex => ?_
    rw [two_inv hab, dOf_inv hx, dOf_inv hy, tupD_inv hs, tupD_inv ht]
    rw [eq_of_beq hj] at hd
    exact J _ _ ih df hd s t g _ _ _ hg hex
  · refine bindK h fun ab hab h => bindK h fun cs hc h => bindK h fun x hx h => bindK h fun wide hw h => ifS h fun _ h => ret h fun hex => ?_
    rw [two_inv hab, feedOf_inv hc, dOf_inv hx, intD_inv hw]
    rw [eq_of_beq ‹(f == ("_law_draw" : Str)) = true›] at hd
    exact Dr _ _ ih df hd cs wide _ _ _ hex

theorem tab_ok {W : Wd} (Wo : WdOk W) (Go : GOK W glob) (EO : EvOK W) {defs : List (Str × Def)} (B : TabOK W 2 basic) (F : FnsOK W defs)
    (J : ∀ k T, TabOK W k T → ∀ df, defs.lookup ("join" : Str) = some df → JoinOK W k T df)
    (Dr : ∀ k T, TabOK W k T → ∀ df, defs.lookup ("_law_draw" : Str) = some df → DrawOK W k T df) : ∀ k, TabOK W (k + 2) (tab defs k) := by
  intro k
  induction k with
  | zero => exact B
  | succ k ih =>
    have le : 2 ≤ k + 1 + 2 := Nat.le_add_left ..
    refine ⟨fun f vs σ v σ' h A R X E s us Q x i r P => ocK h (fun _ h => condS h fun hn h => bindK h fun df hd h => ?_) fun p hb e => ?_,
      fun m vs σ v σ' hm h A R X E s us Q x i r P => ocK h (fun _ h => condS h fun hn h => bindK h fun df hd h => ?_) fun p hb e => ?_,
      fun f vs σ p h => ocK h (fun _ h => condS h fun hn h => bindK h fun df hd h => fn_cw (F.all f hn df hd).1) fun p hb e => B.cw f vs σ p hb⟩
    · obtain ⟨F1, F2⟩ := F.all f hn df hd
      obtain ⟨hl, run⟩ := tab_runs Wo Go EO J Dr ih hd h
      exact fn_enter Wo F1 F2 hl run R x i r P
    · exact B.call f vs σ v σ' (by rw [hb]; exact e) A (R.le le) X E s us Q x i r P
    · obtain ⟨F1, F2⟩ := F.all _ hn df hd
      obtain ⟨hl, run⟩ := tab_runs Wo Go EO J Dr ih hd h
      exact fn_code Wo F1 F2 hl run R x i r P
    · exact B.code m vs σ v σ' hm (by rw [hb]; exact e) A (R.le le) X E s us Q x i r P
end Mine

end

section
open PySem PySem.W PySem.Calls PyProof.Rows PySem.Spec
namespace Mine

section
variable {W : Wd} {X : Addr → Prop} {σ : Nat} {A : Around} {E : Value → Shared → Prop} {s : Shared} {Q : Value → Shared → Prop}

theorem cw_builtin {id : String} : CW W (.builtin id) := by
  intro A E s env pos e rest first Q hst hpl h
  rw [hst] at h ⊢
  exact Calls.callWith_builtin (by show (false || (backTo pos (starEach rest env)).any (·.1)) = false; rw [hpl]; rfl) (evalArgs_plain (wpAny_mono h (fun vs s₁ h₁ => h₁.2) fun _ _ x => x))
theorem cw_type {T : String} : CW W (.type T) := by
  intro A E s env pos e rest first Q hst hpl h
  rw [hst] at h ⊢
  exact PyProof.Rows.callWith_type (by show (false || (backTo pos (starEach rest env)).any (·.1)) = false; rw [hpl]; rfl) (evalArgs_plain (wpAny_mono h (fun vs s₁ h₁ => h₁.2) fun _ _ x => x))

theorem len_tup_ok {ds : List D} {u : Value} (i : Inv W σ s.heap) (r : Rep X s.heap u (.tup ds)) (P : PostV W X σ (.d (.int ds.length)) s Q) : wpAny (model W.prog W.w) A (call (.builtin "len") [u]) Q E s := by
  cases r with
  | @tup a o vs n9 _ hx ho hc hdt hr hl =>
    have hsz : vs.size = ds.length := by simpa using hr.length
    unfold LIM at hl
    refine PyProof.Rows.len_tuple ⟨o, ho, hc, n9, hdt⟩ (by omega) ?_
    rw [hsz]
    exact P _ s.heap _ Gr.refl i (.int _ _)
theorem len_list_ok {ds : List D} {u : Value} (i : Inv W σ s.heap) (r : Rep X s.heap u (.list ds)) (P : PostV W X σ (.d (.int ds.length)) s Q) : wpAny (model W.prog W.w) A (call (.builtin "len") [u]) Q E s := by
  cases r with
  | @list a o vs n9 _ hx ho hc hdt hdn hr hl =>
    have hsz : vs.size = ds.length := by simpa using hr.length
    unfold LIM at hl
    refine call_len_list ⟨o, ho, hc, n9, hdt⟩ (by omega) ?_
    rw [hsz]
    exact P _ s.heap _ Gr.refl i (.int _ _)
theorem tuple_ok (Wo : WdOk W) {ds : List D} {u : Value} (x : XOk W X s.heap) (i : Inv W σ s.heap) (r : Rep X s.heap u (.list ds)) (P : PostV W X σ (.d (.tup ds)) s Q) : wpAny (model W.prog W.w) A (call (.type "tuple") [u]) Q E s := by
  cases r with
  | @list a o vs n9 _ hx ho hc hdt hdn hr hl =>
    have hsz : vs.size = ds.length := by simpa using hr.length
    refine call_tuple_list ⟨o, ho, hc, n9, hdt⟩ (fun h' kp => ?_) (by rw [hsz]; exact lim_size hl)
    have kp2 : ∀ b o, s.heap.get? b = some o → (h'.push { cls := .type "tuple", data := .seq vs }).get? b = some o := fun b o e => push_keeps _ _ b o (kp b o e)
    exact P _ _ s.toks (Gr.of_keeps kp2) (i.keeps Wo kp2) (Rep.newTup (n := 0) (x.keeps kp).new (Heap.get?_push_size _ rfl) kp2 hr hl)
theorem abs_ok {j : Int} {u : Value} (i : Inv W σ s.heap) (r : Rep X s.heap u (.int j)) (P : PostV W X σ (.d (.int j.natAbs)) s Q) : wpAny (model W.prog W.w) A (call (.builtin "abs") [u]) Q E s := by
  cases r with
  | int _ t =>
    refine call_abs_int fun u tk => ?_
    have e : (if j < 0 then -j else j) = (j.natAbs : Int) := by split <;> omega
    rw [e]
    exact P _ s.heap _ Gr.refl i (.int _ _)
theorem int_ok {j : Int} {u : Value} (i : Inv W σ s.heap) (r : Rep X s.heap u (.int j)) (P : PostV W X σ (.d (.int j)) s Q) : wpAny (model W.prog W.w) A (call (.type "int") [u]) Q E s := by
  cases r with
  | int _ t => exact call_int_int (P _ s.heap s.toks Gr.refl i (.int _ _))
end
end Mine

end

section
open PySem PySem.W PySem.Calls PyProof.Rows PySem.Spec
namespace Mine

theorem getAttrBy_miss_list {prog : Program} {w : World} {A : Around} {E : Value → Shared → Prop} {s : Shared} {a : Addr} {o : Obj} {xs : Array Value} {k : Nat} {name : Str} {u : Tok} {Q : Value → Shared → Prop}
    (hx : s.heap.get? a = some o) (hc : o.cls = .type "list") (hdat : o.data = .seq xs k) (hd : o.dict = none) (hmiss : typeLookup (.type "list") name = pure none) (hname : (["__module__", "__name__", "__qualname__", "__doc__", "__annotations__"] : List Str).contains name = false) (hA : A.handled = none)
    (h : ∀ h' tk e, Heap.NewExcOf s.heap h' e "AttributeError" → E (.ref e) { s with heap := h', toks := tk }) (hsz : name.length + 100 ≤ sizeLine := by size_fits) :
    wpAny (model prog w) A (getAttrBy (.ref a) (.str name u) false) Q E s := by
  obtain ⟨c, dct, dat, sl⟩ := o
  simp only at hc hdat hd
  subst hc hdat hd
  obtain ⟨hp, g, d, tk, os⟩ := s
  have hT : ∀ tk', (⟨hp, g, d, tk', os⟩ : Shared).TypeIs (.ref a) "list" := fun _ => ⟨_, hx, rfl⟩
  have f1 := sub_AttributeError
  have f3 := PySem.F.slot_list_getattribute.lookup
  have f4 := PySem.F.slot_list_getattribute.bind (.ref a)
  have f5 := am_list_getattr_none
  unfold getAttrBy
  repeat (any_goals (first | assumption | exact hT _ | ((with_reducible show wpAny _ _ (call (Value.builtin "list.__getattribute__") _ _) _ _ _); refine call_meets PySem.F.slot_list_getattribute (hT _) am_entry_list_getattribute (PySem.F.args_list_getattribute_2 _ _) (meets_getattribute_miss_list a xs k sl name _ hmiss hname hsz) ⟨hx, hA, fun h' tk' e hx' => ?_⟩) | wp_step))
  obtain ⟨t', u', he⟩ := hx'.there
  show wpAny _ _ (getattributeRaised _ _ _ _ _ _ _) _ _ _
  unfold getattributeRaised
  repeat (any_goals (first | assumption | wp_step))
  exact h _ _ _ hx'.of

theorem keys_miss_list : typeLookup (.type "list") (Str.ofString "keys") = pure none := by rw [typeLookup_type, builtinLookup_eq_fast]; kernel_rfl

theorem getAttrQ_miss_list {prog : Program} {w : World} {A : Around} {E : Value → Shared → Prop} {s : Shared} {a : Addr} {o : Obj} {xs : Array Value} {k : Nat} {Q : Option Value → Shared → Prop}
    (hx : s.heap.get? a = some o) (hc : o.cls = .type "list") (hdat : o.data = .seq xs k) (hd : o.dict = none) (hA : A.handled = none)
    (h : ∀ h' tk, (∀ b o, s.heap.get? b = some o → h'.get? b = some o) → Q none { s with heap := h', toks := tk }) :
    wpAny (model prog w) A (getAttr? (.ref a) "keys") Q E s := by
  unfold getAttr? getAttrBy?
  refine wpAny_bind (wpAny_mkText ?_)
  refine wpAny_bind (wpAny_attempt (getAttrBy_miss_list (s := { s with toks := s.toks + 1 }) hx hc hdat hd keys_miss_list (by decide) hA fun h' tk e hx' => ?_))
  obtain ⟨ob, vs, he, hce, _, _⟩ := hx'.there
  have hT : Shared.TypeIs { s with heap := h', toks := tk } (.ref e) "AttributeError" := ⟨ob, he, hce⟩
  dsimp only
  refine wpAny_bind (wpAny_isInstance hT sub_AttributeError ?_)
  rw [if_pos rfl]
  exact wpAny_pure (h h' tk hx'.keeps)

namespace F9
theorem entry_dict_update_loop : entryFor table "dict.update.loop" = some Builtin.«dict.update.loop» := entryFor_of_tree (by kernel_rfl)
theorem plain_dict_update_loop : plainId "dict.update.loop" = true := by decide +kernel
end F9

section
variable {W : Wd} {X : Addr → Prop} {σ : Nat} {A : Around} {E : Value → Shared → Prop} {s : Shared}

noncomputable def keyOK (ks : List D) : Bool := ks.all isRow || ks.all isInt

theorem keys_empty {h : Heap} {a : Addr} {o : Obj} {ep : Nat} (ho : h.get? a = some o) (hc : o.ExactDict) (hd : o.data = .dict #[] ep) : KeysAt W X h a [] ∧ h.DictOfH (rowKey W) a [] ∧ h.DictOf (intKey W) a [] := by
  have h1 : h.DictOfH (rowKey W) a [] := ⟨o, #[], ep, ho, hc, hd, rfl, fun _ hx => by simp at hx, List.nodup_nil⟩
  have h2 : h.DictOf (intKey W) a [] := ⟨o, #[], ep, ho, hc, hd, fun _ he => by simp at he, Pairs.nil, List.nodup_nil⟩
  exact ⟨.inr ⟨[], h2, rfl⟩, h1, h2⟩

theorem KeysAt.none {h : Heap} {a : Addr} (k : KeysAt W X h a []) : h.DictOfH (rowKey W) a [] ∧ h.DictOf (intKey W) a [] := by
  rcases k with ⟨xs, hD, e, _⟩ | ⟨kvs, hD, e⟩
  · have : xs = [] := by cases xs with | nil => rfl | cons _ _ => simp at e
    subst this
    obtain ⟨o, es, ep, ho, hc, hd, he, _⟩ := hD
    have : es = #[] := Array.toList_inj.mp (by rw [he]; rfl)
    subst this
    exact (keys_empty (W := W) (X := X) ho hc hd).2
  · have : kvs = [] := by cases kvs with | nil => rfl | cons _ _ => simp at e
    subst this
    obtain ⟨o, es, ep, ho, hc, hd, _, hp, _⟩ := hD
    have : es = #[] := Array.toList_inj.mp (by have := hp.length; simpa using this)
    subst this
    exact (keys_empty (W := W) (X := X) ho hc hd).2

theorem keys_set {ks : List D} {a : Addr} {key : D} {u : Value} {Q : Unit → Shared → Prop} (hA : A.units + 64 < cLine) (hk : keyOK (ks ++ [key]) = true) (hl : ks.length ≤ LIM) (hX : X a) (K : KeysAt W X s.heap a ks) (r : Rep X s.heap u key)
    (h : ∀ h' tk, KeysAt W X h' a (if ks.any (fun d => d.eqv key) then ks else ks ++ [key]) → Heap.SameBut a s.heap h' → Q () { s with heap := h', toks := tk }) : wpAny (model W.prog W.w) A (dictSet a u (.bool true)) Q E s := by
  have rows : (ks.all isRow && isRow key) = true → (ks ≠ [] → ∃ xs : List (List Int × Addr × Value), s.heap.DictOfH (rowKey W) a xs ∧ ks = xs.map (fun x => rowD x.1) ∧ ∀ x ∈ xs, Rep X s.heap (.ref x.2.1) (rowD x.1)) →
      wpAny (model W.prog W.w) A (dictSet a u (.bool true)) Q E s := fun hr hxs => by
    rw [Bool.and_eq_true] at hr
    obtain ⟨row, rfl⟩ := row_of_isRow hr.2
    obtain ⟨xs, hD, hks, hrs⟩ : ∃ xs : List (List Int × Addr × Value), s.heap.DictOfH (rowKey W) a xs ∧ ks = xs.map (fun x => rowD x.1) ∧ ∀ x ∈ xs, Rep X s.heap (.ref x.2.1) (rowD x.1) := by
      by_cases e : ks = []
      · subst e
        exact ⟨[], K.none.1, rfl, fun _ hx => by simp at hx⟩
      · exact hxs e
    have r' := r
    cases r with
    | @tup b o vs n9 _ hxb ho hc hdt hrr hlr =>
      have hroom : (rowKey W).room A := by show A.units < cLine; omega
      have hlen : xs.length = ks.length := by rw [hks, List.length_map]
      refine wpAny_dictSet_heap (knd := rowKey W) hroom (Rep.rowKey r') hD (fun h' hD' hs => ?_) (by rw [hlen, sizeLine_eq]; unfold LIM at hl; omega)
      have km : ∀ c o, ¬ X c → s.heap.get? c = some o → ¬ X c ∧ h'.get? c = some o := fun c o hc e => ⟨hc, (hs.2 c fun q => hc (q ▸ hX)).trans e⟩
      refine h h' _ (.inl ⟨storedH xs row b (.bool true), hD', ?_, ?_⟩) hs
      · rw [hks, ← any_of_key (r := row)]
        unfold storedH
        split
        · rename_i hsome
          rw [List.map_map]
          refine List.map_congr_left fun x _ => ?_
          show rowD x.1 = rowD (putAt row (.bool true) x).1
          unfold putAt
          split <;> rfl
        · rw [List.map_append]; rfl
      · intro x hx
        unfold storedH at hx
        split at hx
        · obtain ⟨y, hy, rfl⟩ := List.mem_map.mp hx
          have := (hrs y hy).map km
          unfold putAt
          split
          · exact this
          · exact this
        · rcases List.mem_append.mp hx with hx | hx
          · exact (hrs x hx).map km
          · rw [List.mem_singleton] at hx
            subst hx
            exact r'.map km
  have forInts : (ks.all isInt && isInt key) = true → (ks ≠ [] → ∃ kvs : List (Int × Value), s.heap.DictOf (intKey W) a kvs ∧ ks = kvs.map fun x => D.int x.1) → wpAny (model W.prog W.w) A (dictSet a u (.bool true)) Q E s := fun hr hxs => by
    rw [Bool.and_eq_true] at hr
    obtain ⟨i, rfl⟩ : ∃ i, key = .int i := by
      cases key <;> first | exact ⟨_, rfl⟩ | exact absurd hr.2 (by simp [isInt])
    obtain ⟨kvs, hD, hks⟩ : ∃ kvs : List (Int × Value), s.heap.DictOf (intKey W) a kvs ∧ ks = kvs.map fun x => D.int x.1 := by
      by_cases e : ks = []
      · subst e
        exact ⟨[], K.none.2, rfl⟩
      · exact hxs e
    cases r with
    | int _ t =>
      have hlen : kvs.length = ks.length := by rw [hks, List.length_map]
      refine wpAny_dictSet_pairs (knd := intKey W) (k := i) (by simp [PySem.intKind, Value.isInt]) hD (fun h' hD' hs => ?_) (by rw [hlen, sizeLine_eq]; unfold LIM at hl; omega)
      refine h h' _ (.inr ⟨_, hD', ?_⟩) hs
      have e1 : (kvs.map fun x => D.int x.1).any (fun d => d.eqv (.int i)) = kvs.any (fun kv => kv.1 = i) := by
        rw [List.any_map]
        congr 1
      rw [hks, e1]
      unfold stored
      split
      · rw [List.map_map]
        refine List.map_congr_left fun x _ => ?_
        show D.int x.1 = D.int (if x.1 = i then (x.1, Value.bool true) else x).1
        split <;> rfl
      · rw [List.map_append]; rfl
  unfold keyOK at hk
  rw [Bool.or_eq_true, List.all_append, List.all_append] at hk
  simp only [List.all_cons, List.all_nil, Bool.and_true] at hk
  rcases K with ⟨xs, hD, e, hr⟩ | ⟨kvs, hD, e⟩
  · rcases hk with hk | hk
    · exact rows hk fun _ => ⟨xs, hD, e, hr⟩
    · by_cases hn : ks = []
      · exact forInts hk fun q => absurd hn q
      · exfalso
        rw [Bool.and_eq_true] at hk
        cases xs with
        | nil => exact hn e
        | cons x xs => rw [e] at hk; simp [rowD, isInt] at hk
  · rcases hk with hk | hk
    · by_cases hn : ks = []
      · exact rows hk fun q => absurd hn q
      · exfalso
        rw [Bool.and_eq_true] at hk
        cases kvs with
        | nil => exact hn e
        | cons x xs => rw [e] at hk; simp [isRow] at hk
    · exact forInts hk fun _ => ⟨kvs, hD, e⟩
end
end Mine

end

section
open PySem PySem.W PySem.Calls PyProof.Rows PySem.Spec
namespace Mine

theorem pairs_of {ds ks : List D} (h : ds.mapM pairKey? = some ks) : ds = ks.map fun k => D.tup [k, .bool true] := by
  induction ds generalizing ks with
  | nil => simp at h; subst h; rfl
  | cons d ds ih =>
    rw [List.mapM_cons] at h
    refine bindK h fun k hk h => bindK h fun ks' hks e => ?_
    obtain rfl : k :: ks' = ks := Option.some.inj e
    rw [List.map_cons, ← ih hks]
    exact bindK hk fun l h1 hk => bindK hk fun p h2 hk => bindK hk fun q h3 hk => bindK hk fun _ h4 hk => bindK hk fun b h5 hk => condS hk fun hb hk => by
      rw [tupD_inv h1, cons_inv h2, cons_inv h3, nil_inv h4, boolD_inv h5, hb, Option.some.inj hk]

theorem keyOK_sub {l l' : List D} (h : keyOK l = true) (hs : ∀ d ∈ l', d ∈ l) : keyOK l' = true := by
  unfold keyOK at h ⊢
  rw [Bool.or_eq_true, List.all_eq_true, List.all_eq_true] at h
  rw [Bool.or_eq_true, List.all_eq_true, List.all_eq_true]
  exact h.imp (fun q d hd => q d (hs d hd)) fun q d hd => q d (hs d hd)

section
variable {W : Wd} {X : Addr → Prop} {σ : Nat} {A : Around} {E : Value → Shared → Prop}

theorem dict_loop (hh : A.handled = none) (hA : A.units + 96 < cLine) {I ax a : Addr} {items : Array Value} {ks : List D} {res : Value} {R : Result → Shared → Prop} (hI : X I) (ha : X a) (hax : ¬ X ax) (hIa : I ≠ a) (hlim : ks.length < LIM) :
    ∀ (n i : Nat) (s : Shared) (acc : List D), items.size - i = n → i ≤ items.size → s.heap.IsListIter I ax i → s.heap.IsList ax items → Reps X s.heap items.toList (ks.map fun k => D.tup [k, .bool true]) →
      KeysAt W X s.heap a acc → acc.length ≤ i → keyOK (acc ++ ks.drop i) = true →
      (∀ h' tk, (∀ b o, b ≠ I → b ≠ a → s.heap.get? b = some o → h'.get? b = some o) → KeysAt W X h' a (dedup acc (ks.drop i)) → R (.ok (.ret res)) { s with heap := h', toks := tk }) →
      codeAny (model W.prog W.w) A (.builtin "dict.update.loop" ⟨[.ref a, .ref I, rawInt i, res], []⟩) R s := by
  have w := Walks.list (prog := W.prog) (w := W.w) (A := A.in1) hh I ax (fun q => hax (q ▸ hI)) items
  intro n
  induction n with
  | zero =>
    intro i s acc hn hi hit hl hr K hacc hok hR
    have hie : i = items.size := by omega
    subst hie
    have hlen : items.size = ks.length := by have := hr.length; simpa using this
    refine codeAny_builtin F9.entry_dict_update_loop ?_
    rw [Around.under_plainId F9.plain_dict_update_loop _]
    show wpAny _ A.in1 (pyNext (.ref I) >>= _) _ _ s
    refine wpAny_bind (w.done s _ _ ⟨hit, hl⟩ fun h' tk hk => ?_)
    have k9 : ∀ b o, b ≠ I → s.heap.get? b = some o → h'.get? b = some o := fun b o q e => hk b o (by simpa using q) e
    show wpAny _ A.in1 (Builtin.Dict.addKeywords a [] >>= _) _ _ _
    refine wpAny_bind (wpAny_pure (wpAny_pure (hR h' tk (fun b o q _ e => k9 b o q e) ?_)))
    rw [hlen, List.drop_length]
    rcases K with ⟨xs, ⟨o, es, ep, ho, hc, hd, he, his, hnd⟩, e, hrs⟩ | ⟨kvs, hD, e⟩
    · refine .inl ⟨xs, ⟨o, es, ep, k9 a o hIa.symm ho, hc, hd, he, fun x hx => ?_, hnd⟩, e, fun x hx => (hrs x hx).map fun b o hb e => ⟨hb, k9 b o (fun q => hb (q ▸ hI)) e⟩⟩
      exact Rep.rowKey (X := X) ((hrs x hx).map fun b o hb e => ⟨hb, k9 b o (fun q => hb (q ▸ hI)) e⟩)
    · exact .inr ⟨kvs, Heap.DictOf.at' hD fun o e => k9 a o hIa.symm e, e⟩
  | succ n ih =>
    intro i s acc hn hi hit hl hr K hacc hok hR
    have hlt : i < items.size := by omega
    have hlen : items.size = ks.length := by have := hr.length; simpa using this
    have hdrop : ks.drop i = ks[i] :: ks.drop (i + 1) := List.drop_eq_getElem_cons (by omega)
    generalize hkey : ks[i] = key at hdrop
    refine codeAny_builtin F9.entry_dict_update_loop ?_
    rw [Around.under_plainId F9.plain_dict_update_loop _]
    show wpAny _ A.in1 (pyNext (.ref I) >>= _) _ _ s
    refine wpAny_bind (w.item i s _ _ hlt ⟨hit, hl⟩ fun v h1 tk1 hv st1 hk => ?_)
    have k9 : ∀ b o, b ≠ I → s.heap.get? b = some o → h1.get? b = some o := fun b o q e => hk b o (by simpa using q) e
    have km : ∀ b o, ¬ X b → s.heap.get? b = some o → ¬ X b ∧ h1.get? b = some o := fun b o hb e => ⟨hb, k9 b o (fun q => hb (q ▸ hI)) e⟩
    obtain ⟨d, hd, rv⟩ := (hr.map km).get' (i := i) (v := v) (by simpa using hv)
    have hd' : d = .tup [key, .bool true] := by
      rw [List.getElem?_map] at hd
      obtain ⟨k0, hk0, e⟩ := Option.map_eq_some_iff.mp hd
      have : ks[i]? = some key := by rw [List.getElem?_eq_getElem (by omega), hkey]
      rw [this] at hk0
      cases hk0
      exact e.symm
    subst hd'
    have K1 : KeysAt W X h1 a acc := by
      rcases K with ⟨xs, ⟨o, es, ep, ho, hc, hd, he, his, hnd⟩, e, hrs⟩ | ⟨kvs, hD, e⟩
      · exact .inl ⟨xs, ⟨o, es, ep, k9 a o hIa.symm ho, hc, hd, he, fun x hx => Rep.rowKey (X := X) ((hrs x hx).map km), hnd⟩, e, fun x hx => (hrs x hx).map km⟩
      · exact .inr ⟨kvs, Heap.DictOf.at' hD fun o e => k9 a o hIa.symm e, e⟩
    cases rv with
    | @tup b o vs n9 _ hxb ho hc hdt hrr hlr =>
      obtain ⟨vk, vb, hvs, rk, hvb⟩ : ∃ vk vb, vs.toList = [vk, vb] ∧ Rep X h1 vk key ∧ vb = .bool true := by
        generalize vs.toList = l at hrr
        cases hrr with
        | cons a1 r1 =>
          cases r1 with
          | cons a2 r2 =>
            cases r2
            cases a2
            exact ⟨_, _, rfl, a1, rfl⟩
      subst hvb
      have hT : Shared.TypeIs { s with heap := h1, toks := tk1 } (.ref b) "tuple" := ⟨o, ho, hc⟩
      show wpAny _ A.in1 (holding [.ref b] (do
        let pair ← (Builtin.Dict.pairItems (.ref b)).tryCatch fun e => do
          if !(← isInstance e (.type "TypeError")) then throw e
          rule "dict.update.element-no-sequence"
          raiseError "TypeError" s!"cannot convert dictionary update sequence element #{(i : Int)} to a sequence"
        match pair with
        | [k, v] => holding [k, v] (dictSet a k v)
        | l => do
          rule "dict.update.element-length"
          raiseError "ValueError" s!"dictionary update sequence element #{(i : Int)} has length {l.length}; 2 is required") >>= fun _ => again (.builtin "dict.update.loop" ⟨[.ref a, .ref I, rawInt ((i : Int) + 1), res], []⟩)) _ _ _
      refine wpAny_bind (wpAny_holding (wpAny_bind (wpAny_tryCatch ?_)))
      unfold Builtin.Dict.pairItems
      refine wpAny_bind (wpAny_typeOf hT ?_)
      rw [if_pos (by decide)]
      refine wpAny_bind (wpAny_seqItems (s := { s with heap := h1, toks := tk1 }) ho hdt (wpAny_pure ?_))
      show wpAny _ _ (match (vs.toList : List Value) with | [k, v] => holding [k, v] (dictSet a k v) | l => _) _ _ _
      rw [hvs]
      refine wpAny_holding (keys_set (s := { s with heap := h1, toks := tk1 }) (ks := acc) (key := key) (by show A.units + 1 + 64 < cLine; omega) (keyOK_sub hok (by
        rw [hdrop]
        intro d hd
        simp only [List.mem_append, List.mem_cons, List.mem_singleton] at hd ⊢
        rcases hd with q | q
        · exact .inl q
        · rcases q with q | q
          · exact .inr (.inl q)
          · cases q)) (by omega) ha K1 rk fun h2 tk2 K2 hs => ?_)
      have km2 : ∀ c o, ¬ X c → h1.get? c = some o → ¬ X c ∧ h2.get? c = some o := fun c o hc e => ⟨hc, (hs.2 c fun q => hc (q ▸ ha)).trans e⟩
      refine wpAny_pure ⟨plainId_quiet F9.plain_dict_update_loop _, ?_⟩
      have e1 : rawInt ((i : Int) + 1) = rawInt ((i + 1 : Nat) : Int) := by rw [Int.natCast_succ]
      rw [e1]
      refine ih (i + 1) { s with heap := h2, toks := tk2 } _ (by omega) hlt ?_ ?_ ((hr.map km).map km2) K2 ?_ ?_ fun h3 tk3 k3 K3 => ?_
      · obtain ⟨o, e, r⟩ := st1.1
        exact ⟨o, (hs.2 I hIa).trans e, r⟩
      · exact st1.2.at fun o e => (hs.2 ax fun q => hax (q ▸ ha)).trans e
      · split
        · omega
        · simp; omega
      · refine keyOK_sub hok ?_
        rw [hdrop]
        intro d hd
        rcases List.mem_append.mp hd with q | q
        · split at q
          · exact List.mem_append_left _ q
          · rcases List.mem_append.mp q with q | q
            · exact List.mem_append_left _ q
            · exact List.mem_append_right _ (by rw [List.mem_singleton.mp q]; exact List.mem_cons_self)
        · exact List.mem_append_right _ (List.mem_cons_of_mem _ q)
      · refine hR h3 tk3 (fun c o q1 q2 e => k3 c o q1 q2 ((hs.2 c q2).trans (k9 c o q1 e))) ?_
        rw [hdrop]
        simp only [dedup]
        split at K3
        · rename_i hc; rw [if_pos hc]; exact K3
        · rename_i hc; rw [if_neg hc]; exact K3

theorem dict_ok (Wo : WdOk W) {s : Shared} {ds ks : List D} {u : Value} {Q : Value → Shared → Prop} (hh : A.handled = none) (hA : A.units + 128 < cLine) (hm : ds.mapM pairKey? = some ks) (hk : keyOK ks = true) (x : XOk W X s.heap) (i : Inv W σ s.heap) (r : Rep X s.heap u (.list ds))
    (P : PostV W X σ (.keys (dedup [] ks)) s Q) : wpAny (model W.prog W.w) A (call (.type "dict") [u]) Q E s := by
  have hds := pairs_of hm
  subst hds
  cases r with
  | @list l o vs n9 _ hx ho hc hdt hdn hr hl =>
    refine callType_codes (Q₁ := fun obj s₁ => obj = .ref s.heap.objs.size ∧ s₁ = { s with heap := s.heap.push { cls := .type "dict", data := .dict #[] } }) PySem.F.kt_called_dict (PySem.F.kt_typeCall_dict_1 _) PySem.F.entry_dict_init (kt_code_dict_new _ ⟨rfl, rfl⟩) ?_
    rintro obj s₁ ⟨rfl, rfl⟩
    have hnew : (s.heap.push { cls := .type "dict", data := .dict #[] }).DictOf (intKey W) s.heap.objs.size [] := Heap.DictOf.new s.heap
    have ho1 : (s.heap.push { cls := .type "dict", data := .dict #[] }).get? l = some o := push_keeps _ _ l o ho
    have hTl : Shared.TypeIs { s with heap := s.heap.push { cls := .type "dict", data := .dict #[] } } (.ref l) "list" := ⟨o, ho1, hc⟩
    refine ⟨hnew.typeIs, PySem.F.args_dict_init_2 _ _, ?_⟩
    unfold Builtin.«dict.__init__»
    refine wpAny_bind ?_
    unfold Builtin.Dict.selfAndRest
    refine wpAny_bind (wpAny_notOrdered_dict hnew.typeIs ?_)
    show wpAny _ _ (pure (s.heap.objs.size, [Value.ref l])) _ _ _
    refine wpAny_pure ?_
    show wpAny _ _ (Builtin.Dict.updateFrom "dict.__init__" s.heap.objs.size (.ref l) [] .none) _ _ _
    unfold Builtin.Dict.updateFrom
    refine wpAny_bind (wpAny_typeOf hTl ?_)
    rw [if_pos (by decide)]
    refine wpAny_bind (getAttrQ_miss_list ho1 hc hdt hdn hh fun h2 tk2 kp2 => ?_)
    rw [if_pos (by rfl)]
    refine wpAny_bind (wpAny_rule ?_)
    have hl2 : h2.IsList l vs := ⟨o, kp2 l o ho1, hc, n9, hdt⟩
    refine wpAny_bind (wpAny_pyIter_list (s := { s with heap := h2, toks := tk2 }) hl2 ?_)
    have kp0 : ∀ b o, s.heap.get? b = some o → h2.get? b = some o := fun b o e => kp2 b o (push_keeps _ _ b o e)
    have kp3 : ∀ b o, s.heap.get? b = some o → (h2.push { cls := .type "list_iterator", data := .fields #[.ref l, .int 0 0] }).get? b = some o := fun b o e => push_keeps _ _ b o (kp0 b o e)
    obtain ⟨oD, eD⟩ : ∃ oD, h2.get? s.heap.objs.size = some oD := ⟨_, kp2 _ _ (Heap.get?_push_size _ rfl)⟩
    have hDlt : s.heap.objs.size < h2.objs.size := Heap.lt_size eD
    refine wpAny_pure ⟨plainId_quiet F9.plain_dict_update_loop _, ?_⟩
    have hsz : vs.size = ks.length := by have := hr.length; simpa using this
    have K0 : KeysAt W (fun b => X b ∨ b = s.heap.objs.size ∨ b = h2.objs.size) (h2.push { cls := .type "list_iterator", data := .fields #[.ref l, .int 0 0] }) s.heap.objs.size [] :=
      (keys_empty (o := { cls := .type "dict", data := .dict #[] }) (ep := 0) (push_keeps _ _ _ _ (kp2 _ _ (Heap.get?_push_size _ rfl))) ⟨rfl, rfl, rfl⟩ rfl).1
    have hlim : ks.length < LIM := by simpa using hl
    refine dict_loop (A := A.in1) (R := wants (fun r s₂ => r = Value.none ∧ Q (Value.ref s.heap.objs.size) s₂) E) (res := .none) (X := fun b => X b ∨ b = s.heap.objs.size ∨ b = h2.objs.size) (ks := ks) (items := vs) hh (by show A.units + 1 + 96 < cLine; omega) (.inr (.inr rfl)) (.inr (.inl rfl)) (fun q => ?_) (Nat.ne_of_gt hDlt) hlim vs.size 0 { s with heap := h2.push { cls := .type "list_iterator", data := .fields #[.ref l, .int 0 0] }, toks := tk2 } [] rfl (Nat.zero_le _)
      ⟨_, Heap.get?_push_size _ rfl, rfl, rfl⟩ (hl2.at (push_keeps _ _ l)) (hr.map fun b o hb e => ⟨fun q => ?_, kp3 b o e⟩) K0 (Nat.zero_le _) (by simpa using hk) fun h' tk k K => ?_
    · rcases q with q | q | q
      · exact hx q
      · exact Nat.lt_irrefl _ (q ▸ Heap.lt_size ho)
      · exact absurd (q ▸ Heap.lt_size ho : h2.objs.size < s.heap.objs.size) (Nat.not_lt.mpr (Nat.le_of_lt hDlt))
    · rcases q with q | q | q
      · exact hb q
      · exact Nat.lt_irrefl _ (q ▸ Heap.lt_size e)
      · exact absurd (q ▸ Heap.lt_size e : h2.objs.size < s.heap.objs.size) (Nat.not_lt.mpr (Nat.le_of_lt hDlt))
    · have kfin : ∀ b o, s.heap.get? b = some o → h'.get? b = some o := fun b o e => by
        have := Heap.lt_size e
        exact k b o (Nat.ne_of_lt (Nat.lt_trans this hDlt)) (Nat.ne_of_lt this) (kp3 b o e)
      refine ⟨rfl, P _ h' tk (Gr.of_keeps kfin) (i.keeps Wo kfin) ⟨_, rfl, x.new, ?_, ?_⟩⟩
      · obtain ⟨a9, o, hlt, e⟩ := Wo.sys
        have := Nat.lt_trans hlt (Heap.lt_size (i.base _ _ e))
        exact beq_eq_false_iff_ne.mpr (fun q => Nat.lt_irrefl _ (q ▸ this))
      · rw [List.drop_zero] at K
        rcases K with ⟨xs, hD, e, hrs⟩ | ⟨kvs, hD, e⟩
        · exact .inl ⟨xs, hD, e, fun x hx => (hrs x hx).wide fun b hb => .inl hb⟩
        · exact .inr ⟨kvs, hD, e⟩
end
end Mine

end

section
open PySem PySem.W PySem.Calls PyProof.Rows PySem.Spec
namespace Mine

noncomputable def runT {α : Type} (lt : Nat → Nat → Bool) : KasT α → α
  | .ret a => a
  | .ask i j k => runT lt (k (lt i j))
theorem runT_bind {α β : Type} (lt : Nat → Nat → Bool) (f : α → KasT β) : ∀ t : KasT α, runT lt (t.bind f) = runT lt (f (runT lt t))
  | .ret _ => rfl
  | .ask i j k => runT_bind lt f (k (lt i j))

/-- every place that is asked for lies below n -/
noncomputable def RunIn {α : Type} (lt : Nat → Nat → Bool) (n : Nat) : KasT α → Prop
  | .ret _ => True
  | .ask i j k => i < n ∧ j < n ∧ RunIn lt n (k (lt i j))
theorem RunIn.bind {α β : Type} {lt : Nat → Nat → Bool} {n : Nat} {f : α → KasT β} : ∀ {t : KasT α}, RunIn lt n t → RunIn lt n (f (runT lt t)) → RunIn lt n (t.bind f)
  | .ret _, _, h => h
  | .ask i j k, ⟨a, b, c⟩, h => ⟨a, b, RunIn.bind c h⟩

noncomputable def gt (p : Array Nat) (k : Nat) : Nat := p.getD k 0
theorem gt_of {p q : Array Nat} {i j : Nat} (h : p[i]? = q[j]?) : gt p i = gt q j := by
  unfold gt
  rw [Array.getD_eq_getD_getElem?, Array.getD_eq_getD_getElem?, h]

structure Ord9 (n : Nat) (lt : Nat → Nat → Bool) : Prop where
  tr : ∀ a b c, lt a b = true → lt b c = true → lt a c = true
  irr : ∀ a, lt a a = false
  tot : ∀ a b, a < n → b < n → a ≠ b → lt a b = false → lt b a = true

structure Prm (n : Nat) (p : Array Nat) : Prop where
  perm : p.toList.Perm (List.range n)

section
variable {n : Nat} {lt : Nat → Nat → Bool} {p : Array Nat}
theorem Prm.size (P : Prm n p) : p.size = n := by have := P.perm.length_eq; simpa using this
theorem Prm.get (P : Prm n p) {i : Nat} (hi : i < n) : ∃ h : i < p.toList.length, gt p i = p.toList[i] := by
  have h : i < p.toList.length := by rw [Array.length_toList, P.size]; exact hi
  refine ⟨h, ?_⟩
  unfold gt
  have h' : i < p.size := by rw [P.size]; exact hi
  simp [Array.getD, h']
theorem Prm.low (P : Prm n p) {i : Nat} (hi : i < n) : gt p i < n := by
  obtain ⟨h, e⟩ := P.get hi
  rw [e]
  exact List.mem_range.mp (P.perm.mem_iff.mp (List.getElem_mem h))
theorem Prm.ne (P : Prm n p) {i j : Nat} (hi : i < n) (hj : j < n) (h : i ≠ j) : gt p i ≠ gt p j := by
  obtain ⟨h1, e1⟩ := P.get hi
  obtain ⟨h2, e2⟩ := P.get hj
  rw [e1, e2]
  have hn : p.toList.Nodup := P.perm.nodup_iff.mpr List.nodup_range
  have hp := List.pairwise_iff_getElem.mp hn
  rcases Nat.lt_or_gt_of_ne h with q | q
  · exact hp i j h1 h2 q
  · exact fun e => hp j i h2 h1 q e.symm
theorem Prm.of {q : Array Nat} (P : Prm n p) (h : q.Perm p) : Prm n q := ⟨(Array.perm_iff_toList_perm.mp h).trans P.perm⟩

noncomputable def Srt (lt : Nat → Nat → Bool) (p : Array Nat) (m : Nat) : Prop := ∀ i j, i < j → j < m → lt (gt p i) (gt p j) = true
noncomputable def Dsc (lt : Nat → Nat → Bool) (p : Array Nat) (m : Nat) : Prop := ∀ i j, i < j → j < m → lt (gt p j) (gt p i) = true

theorem Srt.more (O : Ord9 n lt) {m : Nat} (h : Srt lt p m) (h1 : lt (gt p (m - 1)) (gt p m) = true) : Srt lt p (m + 1) := by
  intro i j hij hj
  by_cases q : j < m
  · exact h i j hij q
  · obtain rfl : j = m := by omega
    by_cases q2 : i = j - 1
    · rw [q2]; exact h1
    · exact O.tr _ _ _ (h i (j - 1) (by omega) (by omega)) h1
theorem Dsc.more (O : Ord9 n lt) {m : Nat} (h : Dsc lt p m) (h1 : lt (gt p m) (gt p (m - 1)) = true) : Dsc lt p (m + 1) := by
  intro i j hij hj
  by_cases q : j < m
  · exact h i j hij q
  · obtain rfl : j = m := by omega
    by_cases q2 : i = j - 1
    · rw [q2]; exact h1
    · exact O.tr _ _ _ h1 (h i (j - 1) (by omega) (by omega))

theorem asc_run (O : Ord9 n lt) (P : Prm n p) : ∀ f m, 1 ≤ m → m + f ≤ n → Srt lt p m → ∃ m', runT lt (kas_asc p f m) = m' ∧ m ≤ m' ∧ m' ≤ m + f ∧ Srt lt p m' ∧ (m' < m + f → lt (gt p m') (gt p (m' - 1)) = true) ∧ RunIn lt n (kas_asc p f m) := by
  intro f
  induction f with
  | zero => intro m h1 h2 hs; exact ⟨m, rfl, Nat.le_refl _, Nat.le_refl _, hs, fun q => absurd q (Nat.lt_irrefl _), trivial⟩
  | succ f ih =>
    intro m h1 h2 hs
    show ∃ m', runT lt (if lt (gt p m) (gt p (m - 1)) = true then KasT.ret m else kas_asc p f (m + 1)) = m' ∧ m ≤ m' ∧ m' ≤ m + (f + 1) ∧ Srt lt p m' ∧ (m' < m + (f + 1) → lt (gt p m') (gt p (m' - 1)) = true) ∧ (gt p m < n ∧ gt p (m - 1) < n ∧ RunIn lt n (if lt (gt p m) (gt p (m - 1)) = true then KasT.ret m else kas_asc p f (m + 1)))
    have l1 := P.low (i := m) (by omega)
    have l2 := P.low (i := m - 1) (by omega)
    by_cases q : lt (gt p m) (gt p (m - 1)) = true
    · rw [if_pos q]
      exact ⟨m, rfl, Nat.le_refl _, by omega, hs, fun _ => q, l1, l2, trivial⟩
    · rw [if_neg q]
      have q' := O.tot _ _ (P.low (i := m) (by omega)) (P.low (i := m - 1) (by omega)) (P.ne (i := m) (j := m - 1) (by omega) (by omega) (by omega)) (by simpa using q)
      obtain ⟨m', e, a, b, c, d, r⟩ := ih (m + 1) (by omega) (by omega) (hs.more O q')
      exact ⟨m', e, by omega, by omega, c, fun z => d (by omega), l1, l2, r⟩

theorem desc_run (O : Ord9 n lt) (P : Prm n p) : ∀ f m, 1 ≤ m → m + f ≤ n → Dsc lt p m → ∃ m', runT lt (kas_desc f p m 0) = (p, m', 0) ∧ m ≤ m' ∧ m' ≤ m + f ∧ Dsc lt p m' ∧ RunIn lt n (kas_desc f p m 0) := by
  intro f
  induction f with
  | zero => intro m h1 h2 hs; exact ⟨m, rfl, Nat.le_refl _, Nat.le_refl _, hs, trivial⟩
  | succ f ih =>
    intro m h1 h2 hs
    show ∃ m', runT lt (if lt (gt p m) (gt p (m - 1)) = true then (if 0 > 0 then kas_desc f (kas_rev p (m - (0 + 1)) m) (m + 1) 0 else kas_desc f p (m + 1) 0)
      else .ask (p.getD (m - 1) 0) (p.getD m 0) fun d => if d = true then .ret (p, m, 0) else kas_desc f p (m + 1) (0 + 1)) = _ ∧ m ≤ m' ∧ m' ≤ m + (f + 1) ∧ Dsc lt p m' ∧ (gt p m < n ∧ gt p (m - 1) < n ∧ RunIn lt n (if lt (gt p m) (gt p (m - 1)) = true then (if 0 > 0 then kas_desc f (kas_rev p (m - (0 + 1)) m) (m + 1) 0 else kas_desc f p (m + 1) 0)
      else .ask (p.getD (m - 1) 0) (p.getD m 0) fun d => if d = true then .ret (p, m, 0) else kas_desc f p (m + 1) (0 + 1)))
    have l1 := P.low (i := m) (by omega)
    have l2 := P.low (i := m - 1) (by omega)
    by_cases q : lt (gt p m) (gt p (m - 1)) = true
    · rw [if_pos q, if_neg (by omega)]
      obtain ⟨m', e, a, b, c, r⟩ := ih (m + 1) (by omega) (by omega) (hs.more O q)
      exact ⟨m', e, by omega, by omega, c, l1, l2, r⟩
    · rw [if_neg q]
      have q' := O.tot _ _ (P.low (i := m) (by omega)) (P.low (i := m - 1) (by omega)) (P.ne (i := m) (j := m - 1) (by omega) (by omega) (by omega)) (by simpa using q)
      refine ⟨m, ?_, Nat.le_refl _, by omega, hs, l1, l2, l2, l1, ?_⟩
      · show runT lt (if lt (gt p (m - 1)) (gt p m) = true then .ret (p, m, 0) else kas_desc f p (m + 1) (0 + 1)) = _
        rw [if_pos q']; rfl
      · show RunIn lt n (if lt (gt p (m - 1)) (gt p m) = true then .ret (p, m, 0) else kas_desc f p (m + 1) (0 + 1))
        rw [if_pos q']; trivial

theorem rev_gt (P : Prm n p) {m : Nat} (hm : m ≤ n) (k : Nat) : gt (kas_rev p 0 m) k = if k < m then gt p (m - 1 - k) else gt p k := by
  have h := getElem?_mirror_all (xs := p) (i := 0) (j := m) (by rw [P.size]; exact hm) k
  unfold kas_rev
  split
  · refine gt_of (h.trans ?_)
    rw [if_pos (by omega)]
    congr 1; omega
  · refine gt_of (h.trans ?_)
    rw [if_neg (by omega)]
theorem rev_srt (P : Prm n p) {m : Nat} (hm : m ≤ n) (h : Dsc lt p m) : Srt lt (kas_rev p 0 m) m := by
  intro i j hij hj
  rw [rev_gt P hm, rev_gt P hm, if_pos (by omega), if_pos hj]
  exact h _ _ (by omega) (by omega)

theorem count_run (O : Ord9 n lt) (P : Prm n p) (h2 : 2 ≤ n) : ∃ m p', runT lt (kas_count n p) = (m, p') ∧ Prm n p' ∧ 1 ≤ m ∧ m ≤ n ∧ Srt lt p' m ∧ RunIn lt n (kas_count n p) := by
  obtain ⟨m, e, a, b, c, d, r⟩ := asc_run O P (n - 1) 1 (Nat.le_refl _) (by omega) (fun i j h1 h2 => by omega)
  have key : ∃ m' p', runT lt (if (m == n) = true then KasT.ret (m, p) else if m > 1 then .ask (p.getD 0 0) (p.getD (m - 1) 0) fun c => if c = true then .ret (m, p) else kas_descPart m n (kas_rev p 0 m) else kas_descPart m n p) = (m', p') ∧ Prm n p' ∧ 1 ≤ m' ∧ m' ≤ n ∧ Srt lt p' m' ∧
      RunIn lt n (if (m == n) = true then KasT.ret (m, p) else if m > 1 then .ask (p.getD 0 0) (p.getD (m - 1) 0) fun c => if c = true then .ret (m, p) else kas_descPart m n (kas_rev p 0 m) else kas_descPart m n p) := by
    by_cases q : m = n
    · rw [if_pos (by simpa using q)]
      exact ⟨m, p, rfl, P, a, by omega, c, trivial⟩
    · rw [if_neg (by simpa using q)]
      by_cases q1 : m > 1
      · rw [if_pos q1]
        show ∃ m' p', runT lt (if lt (gt p 0) (gt p (m - 1)) = true then KasT.ret (m, p) else kas_descPart m n (kas_rev p 0 m)) = (m', p') ∧ Prm n p' ∧ 1 ≤ m' ∧ m' ≤ n ∧ Srt lt p' m' ∧ (gt p 0 < n ∧ gt p (m - 1) < n ∧ RunIn lt n (if lt (gt p 0) (gt p (m - 1)) = true then KasT.ret (m, p) else kas_descPart m n (kas_rev p 0 m)))
        rw [if_pos (c 0 (m - 1) (by omega) (by omega))]
        exact ⟨m, p, rfl, P, a, by omega, c, P.low (by omega), P.low (by omega), trivial⟩
      · rw [if_neg q1]
        obtain rfl : m = 1 := by omega
        have hd := d (by omega)
        unfold kas_descPart
        obtain ⟨m', e', a', b', c', r'⟩ := desc_run O P (n - (1 + 1)) (1 + 1) (by omega) (by omega) (fun i j h1 h2 => by
          obtain rfl : i = 0 := by omega
          obtain rfl : j = 1 := by omega
          exact hd)
        have P' : Prm n (kas_rev p 0 m') := P.of (mirror_perm _ _ _ _)
        obtain ⟨m2, e2, a2, b2, c2, _, r2⟩ := asc_run O P' (n - m') m' (by omega) (by omega) (rev_srt P (by omega) c')
        refine ⟨m2, kas_rev p 0 m', ?_, P', by omega, by omega, c2, ?_⟩
        · rw [runT_bind, e']
          rw [if_neg (by simp)]
          show runT lt (kas_tail3 m' n p) = _
          unfold kas_tail3
          rw [runT_bind, e2]; rfl
        · refine RunIn.bind r' ?_
          rw [e']
          rw [if_neg (by simp)]
          show RunIn lt n (kas_tail3 m' n p)
          unfold kas_tail3
          exact RunIn.bind r2 trivial
  obtain ⟨m', p', k1, k2, k3, k4, k5, k6⟩ := key
  refine ⟨m', p', ?_, k2, k3, k4, k5, ?_⟩
  · unfold kas_count
    rw [runT_bind, e]; exact k1
  · unfold kas_count
    refine RunIn.bind r ?_
    rw [e]; exact k6

theorem place_run (O : Ord9 n lt) (P : Prm n p) {k : Nat} (hk : k < n) (hs : Srt lt p k) : ∀ f l r, l ≤ r → r ≤ k → r - l ≤ f → (∀ i, i < l → lt (gt p i) (gt p k) = true) → (∀ i, r ≤ i → i < k → lt (gt p k) (gt p i) = true) →
    ∃ l', runT lt (kas_place p k f l r) = l' ∧ l' ≤ k ∧ (∀ i, i < l' → lt (gt p i) (gt p k) = true) ∧ (∀ i, l' ≤ i → i < k → lt (gt p k) (gt p i) = true) ∧ RunIn lt n (kas_place p k f l r) := by
  intro f
  induction f with
  | zero =>
    intro l r h1 h2 h3 h4 h5
    obtain rfl : l = r := by omega
    exact ⟨l, rfl, h2, h4, h5, trivial⟩
  | succ f ih =>
    intro l r h1 h2 h3 h4 h5
    unfold kas_place
    by_cases q : l ≥ r
    · rw [if_pos q]
      obtain rfl : l = r := by omega
      exact ⟨l, rfl, h2, h4, h5, trivial⟩
    · rw [if_neg q]
      show ∃ l', runT lt (if lt (gt p k) (gt p ((l + r) / 2)) = true then kas_place p k f l ((l + r) / 2) else kas_place p k f ((l + r) / 2 + 1) r) = l' ∧ l' ≤ k ∧ (∀ i, i < l' → lt (gt p i) (gt p k) = true) ∧ (∀ i, l' ≤ i → i < k → lt (gt p k) (gt p i) = true) ∧
        (gt p k < n ∧ gt p ((l + r) / 2) < n ∧ RunIn lt n (if lt (gt p k) (gt p ((l + r) / 2)) = true then kas_place p k f l ((l + r) / 2) else kas_place p k f ((l + r) / 2 + 1) r))
      have l1 := P.low (i := k) hk
      have l2 := P.low (i := (l + r) / 2) (by omega)
      have wrap : ∀ {t : KasT Nat}, (∃ l', runT lt t = l' ∧ l' ≤ k ∧ (∀ i, i < l' → lt (gt p i) (gt p k) = true) ∧ (∀ i, l' ≤ i → i < k → lt (gt p k) (gt p i) = true) ∧ RunIn lt n t) →
          ∃ l', runT lt t = l' ∧ l' ≤ k ∧ (∀ i, i < l' → lt (gt p i) (gt p k) = true) ∧ (∀ i, l' ≤ i → i < k → lt (gt p k) (gt p i) = true) ∧ (gt p k < n ∧ gt p ((l + r) / 2) < n ∧ RunIn lt n t) :=
        fun ⟨l', a, b, c, d, e⟩ => ⟨l', a, b, c, d, l1, l2, e⟩
      by_cases z : lt (gt p k) (gt p ((l + r) / 2)) = true
      · rw [if_pos z]
        refine wrap (ih l ((l + r) / 2) (by omega) (by omega) (by omega) h4 fun i hi hik => ?_)
        by_cases y : i = (l + r) / 2
        · rw [y]; exact z
        · exact O.tr _ _ _ z (hs _ _ (by omega) hik)
      · rw [if_neg z]
        have z' := O.tot _ _ (P.low (i := k) hk) (P.low (i := (l + r) / 2) (by omega)) (P.ne (j := (l + r) / 2) hk (by omega) (by omega)) (by simpa using z)
        refine wrap (ih ((l + r) / 2 + 1) r (by omega) h2 (by omega) (fun i hi => ?_) h5)
        by_cases y : i = (l + r) / 2
        · rw [y]; exact z'
        · exact O.tr _ _ _ (hs _ _ (by omega) (by omega)) z'

theorem bin_run (O : Ord9 n lt) : ∀ f (p : Array Nat) k, Prm n p → k + f = n → Srt lt p k → ∃ p', runT lt (kas_bin f p k) = p' ∧ Prm n p' ∧ Srt lt p' n ∧ RunIn lt n (kas_bin f p k) := by
  intro f
  induction f with
  | zero =>
    intro p k P hk hs
    obtain rfl : k = n := by omega
    exact ⟨p, rfl, P, hs, trivial⟩
  | succ f ih =>
    intro p k P hk hs
    unfold kas_bin
    obtain ⟨l, e, hl, h1, h2, r9⟩ := place_run O P (k := k) (by omega) hs k 0 k (Nat.zero_le _) (Nat.le_refl _) (by omega) (fun i hi => by omega) (fun i hi hik => by omega)
    have P' : Prm n (bubble p k (k - l)) := P.of (bubble_perm _ _ _)
    suffices hsuf : Srt lt (bubble p k (k - l)) (k + 1) by
      obtain ⟨p', a1, a2, a3, a4⟩ := ih _ (k + 1) P' (by omega) hsuf
      refine ⟨p', ?_, a2, a3, RunIn.bind r9 ?_⟩
      · rw [runT_bind, e]; exact a1
      · rw [e]; exact a4
    have hb : ∀ j, gt (bubble p k (k - l)) j = if j = l then gt p k else if l < j ∧ j ≤ k then gt p (j - 1) else gt p j := fun j => by
      have h := getElem?_bubble (xs := p) (src := k) (by rw [P.size]; omega) (k - l) (by omega) j
      have hkl : k - (k - l) = l := by omega
      rw [hkl] at h
      split
      · rename_i q; rw [if_pos q] at h; exact gt_of h
      · rename_i q
        rw [if_neg q] at h
        split
        · rename_i q2; rw [if_pos q2] at h; exact gt_of h
        · rename_i q2; rw [if_neg q2] at h; exact gt_of h
    intro i j hij hj
    rw [hb, hb]
    by_cases qi : i = l
    · rw [if_pos qi, if_neg (by omega), if_pos (by omega)]
      exact h2 _ (by omega) (by omega)
    · rw [if_neg qi]
      by_cases qj : j = l
      · rw [if_pos qj, if_neg (by omega)]
        exact h1 _ (by omega)
      · rw [if_neg qj]
        by_cases q1 : l < i ∧ i ≤ k
        · rw [if_pos q1, if_pos (by omega)]
          exact hs _ _ (by omega) (by omega)
        · rw [if_neg q1]
          by_cases q2 : l < j ∧ j ≤ k
          · rw [if_pos q2]
            exact hs _ _ (by omega) (by omega)
          · rw [if_neg q2]
            exact hs _ _ hij (by omega)

theorem sort_run (O : Ord9 n lt) (h2 : 2 ≤ n) : ∃ p', runT lt (kas_sort n) = p' ∧ Prm n p' ∧ Srt lt p' n ∧ RunIn lt n (kas_sort n) := by
  have P0 : Prm n (List.toArray (List.range n)) := ⟨List.Perm.refl _⟩
  obtain ⟨m, p', e, P', a, b, c, r⟩ := count_run O P0 h2
  have key : ∃ q, runT lt (if m < n then kas_bin (n - max m 1) p' (max m 1) else .ret p') = q ∧ Prm n q ∧ Srt lt q n ∧ RunIn lt n (if m < n then kas_bin (n - max m 1) p' (max m 1) else .ret p') := by
    by_cases q : m < n
    · rw [if_pos q]
      have hm : max m 1 = m := by omega
      rw [hm]
      exact bin_run O (n - m) p' m P' (by omega) c
    · rw [if_neg q]
      obtain rfl : m = n := by omega
      exact ⟨_, rfl, P', c, trivial⟩
  obtain ⟨q, k1, k2, k3, k4⟩ := key
  refine ⟨q, ?_, k2, k3, ?_⟩
  · unfold kas_sort
    rw [runT_bind, e]; exact k1
  · unfold kas_sort
    refine RunIn.bind r ?_
    rw [e]; exact k4
end

theorem wp_det {α : Type} {cmp : Nat → Nat → (Bool → Shared → Prop) → Shared → Prop} {lt : Nat → Nat → Bool} {n : Nat} {s : Shared} {Q : α → Shared → Prop} (hc : ∀ i j C, i < n → j < n → C (lt i j) s → cmp i j C s) :
    ∀ t : KasT α, RunIn lt n t → Q (runT lt t) s → t.kasWp cmp Q s
  | .ret _, _, h => h
  | .ask i j k, ⟨a, b, c⟩, h => hc i j _ a b (wp_det hc (k (lt i j)) c h)
end Mine

end

section
open PySem PySem.W PySem.Calls PyProof.Rows PySem.Spec
namespace Mine

theorem lex_irr : ∀ a : List Int, lexLt a a = false
  | [] => rfl
  | x :: xs => by unfold lexLt; rw [if_pos (by simp)]; exact lex_irr xs
theorem lex_tr : ∀ a b c : List Int, lexLt a b = true → lexLt b c = true → lexLt a c = true
  | [], [], _, h, _ => by simp [lexLt] at h
  | [], _ :: _, [], _, h => by simp [lexLt] at h
  | [], _ :: _, _ :: _, _, _ => rfl
  | _ :: _, [], _, h, _ => by simp [lexLt] at h
  | _ :: _, _ :: _, [], _, h => by simp [lexLt] at h
  | a :: as, b :: bs, c :: cs, h1, h2 => by
    unfold lexLt at h1 h2 ⊢
    by_cases e1 : a = b
    · subst e1
      rw [if_pos (by simp)] at h1
      by_cases e2 : a = c
      · subst e2
        rw [if_pos (by simp)] at h2 ⊢
        exact lex_tr as bs cs h1 h2
      · rw [if_neg (by simpa using e2)] at h2 ⊢
        exact h2
    · rw [if_neg (by simpa using e1)] at h1
      by_cases e2 : b = c
      · subst e2
        rw [if_neg (by simpa using e1)]
        exact h1
      · rw [if_neg (by simpa using e2)] at h2
        have l1 : a < b := by simpa using h1
        have l2 : b < c := by simpa using h2
        rw [if_neg (by simp; omega)]
        simp; omega
theorem lex_tot : ∀ a b : List Int, a ≠ b → lexLt a b = false → lexLt b a = true
  | [], [], h, _ => absurd rfl h
  | [], _ :: _, _, h => by simp [lexLt] at h
  | _ :: _, [], _, _ => rfl
  | a :: as, b :: bs, h, h1 => by
    unfold lexLt at h1 ⊢
    by_cases e1 : a = b
    · subst e1
      rw [if_pos (by simp)] at h1 ⊢
      exact lex_tot as bs (fun q => h (by rw [q])) h1
    · rw [if_neg (by simpa using e1)] at h1
      rw [if_neg (by simp; omega)]
      have : ¬ a < b := by simpa using h1
      simp; omega

section
variable {W : Wd} {X : Addr → Prop} {A : Around} {E : Value → Shared → Prop} {s : Shared}

theorem katlex_ints {fin : Bool} {Q : Bool → Shared → Prop} : ∀ (r1 r2 : List Int) (xs ys : List Value) (i : Nat), Reps X s.heap xs (r1.map .int) → Reps X s.heap ys (r2.map .int) → fin = decide (r1.length < r2.length) →
    Q (lexLt r1 r2) s → KatLex W.prog W.w A true fin Q (xs.zip ys) i s := by
  intro r1
  induction r1 with
  | nil =>
    intro r2 xs ys i h1 h2 hf hQ
    cases h1
    cases r2 with
    | nil => rw [hf]; exact hQ
    | cons b bs => rw [hf]; exact hQ
  | cons a as ih =>
    intro r2 xs ys i h1 h2 hf hQ
    cases r2 with
    | nil => cases h2; cases h1; rw [hf]; exact hQ
    | cons b bs =>
      cases h1 with
      | cons p1 h1 =>
        cases h2 with
        | cons p2 h2 =>
          cases p1 with
          | int _ t =>
            cases p2 with
            | int _ u =>
              rw [List.zip_cons_cons]
              refine kat_cons (wpAny_eqBool_int ?_)
              unfold lexLt at hQ
              cases e : a == b with
              | true =>
                rw [e, if_pos rfl] at hQ
                exact kat_yes (ih bs _ _ (i + 1) h1 h2 (by rw [hf]; simp) hQ)
              | false =>
                rw [e, if_neg (by simp)] at hQ
                refine kat_no ?_
                cases hi : (true && i == 0) with
                | true => exact oneLt_int hQ
                | false => exact kat_one _ _ (PyProof.Rows.lt_int hQ)

theorem row_lt {x y : Value} {r1 r2 : List Int} {Q : Bool → Shared → Prop} (h1 : Rep X s.heap x (rowD r1)) (h2 : Rep X s.heap y (rowD r2)) (hQ : Q (lexLt r1 r2) s) : wpAny (model W.prog W.w) A (keyLt' (tuples' true) x y) Q E s := by
  cases h1 with
  | @tup a o vs n _ _ ho hc hd hr hl =>
    cases h2 with
    | @tup b o' vs' n' _ _ ho' hc' hd' hr' hl' =>
      refine kat_lt ho hd ho' hd' (katlex_ints r1 r2 _ _ 0 hr hr' ?_ hQ)
      have e1 := hr.length
      have e2 := hr'.length
      simp only [Array.length_toList, List.length_map] at e1 e2
      rw [e1, e2]

noncomputable def rowsD (rs : List (List Int)) : List D := rs.map rowD
theorem rows_get {h : Heap} {vs : List Value} {rs : List (List Int)} (r : Reps X h vs (rowsD rs)) {i : Nat} (hi : i < rs.length) : Rep X h (vs.getD i Value.none) (rowD (rs.getD i [])) := by
  have hd : (rowsD rs)[i]? = some (rowD (rs.getD i [])) := by
    unfold rowsD
    rw [List.getElem?_map, List.getElem?_eq_getElem hi]
    simp [hi]
  obtain ⟨v, hv, rv⟩ := r.get hd
  rw [List.getD_eq_getElem?_getD, hv]
  exact rv

theorem rows_ord {rs : List (List Int)} (hn : rs.Nodup) : Ord9 rs.length (fun i j => lexLt (rs.getD i []) (rs.getD j [])) where
  tr := fun a b c h1 h2 => lex_tr _ _ _ h1 h2
  irr := fun a => lex_irr _
  tot := fun a b ha hb hne h => by
    refine lex_tot _ _ (fun e => ?_) h
    have hp := List.pairwise_iff_getElem.mp hn
    rw [List.getD_eq_getElem?_getD, List.getD_eq_getElem?_getD, List.getElem?_eq_getElem ha, List.getElem?_eq_getElem hb] at e
    simp only [Option.getD_some] at e
    rcases Nat.lt_or_gt_of_ne hne with q | q
    · exact hp a b ha hb q e
    · exact hp b a hb ha q e.symm

/-- sorted rows -/
noncomputable def insR (d : List Int) : List (List Int) → List (List Int)
  | [] => [d]
  | e :: es => if lexLt d e then d :: e :: es else e :: insR d es
noncomputable def sortR (rs : List (List Int)) : List (List Int) := rs.foldr insR []

theorem rowInts_rowD (r : List Int) : rowInts (rowD r) = r := by
  unfold rowInts rowD
  simp only [List.map_map]
  exact (List.map_congr_left fun _ _ => rfl).trans (List.map_id _)
theorem insR_D (d : List Int) : ∀ es : List (List Int), insRow (rowD d) (rowsD es) = rowsD (insR d es)
  | [] => rfl
  | e :: es => by
    show (if lexLt (rowInts (rowD d)) (rowInts (rowD e)) = true then rowD d :: rowD e :: rowsD es else rowD e :: insRow (rowD d) (rowsD es)) = _
    rw [rowInts_rowD, rowInts_rowD]
    unfold insR
    split
    · rfl
    · rw [insR_D d es]; rfl
theorem sortR_D : ∀ rs : List (List Int), sortRows (rowsD rs) = rowsD (sortR rs)
  | [] => rfl
  | r :: rs => by
    show insRow (rowD r) (sortRows (rowsD rs)) = rowsD (insR r (sortR rs))
    rw [sortR_D rs, insR_D]
theorem insR_perm (d : List Int) : ∀ es : List (List Int), (insR d es).Perm (d :: es)
  | [] => List.Perm.refl _
  | e :: es => by
    unfold insR
    split
    · exact List.Perm.refl _
    · exact ((insR_perm d es).cons e).trans (List.Perm.swap _ _ _)
theorem sortR_perm : ∀ rs : List (List Int), (sortR rs).Perm rs
  | [] => List.Perm.refl _
  | r :: rs => (insR_perm r _).trans ((sortR_perm rs).cons r)
theorem insR_sorted (d : List Int) : ∀ es : List (List Int), d ∉ es → es.Pairwise (fun a b => lexLt a b = true) → (insR d es).Pairwise (fun a b => lexLt a b = true)
  | [], _, _ => List.pairwise_singleton _ _
  | e :: es, hd, h => by
    rw [List.pairwise_cons] at h
    unfold insR
    split
    · rename_i hl
      rw [List.pairwise_cons]
      refine ⟨fun x hx => ?_, List.pairwise_cons.mpr h⟩
      rcases List.mem_cons.mp hx with rfl | hx
      · exact hl
      · exact lex_tr _ _ _ hl (h.1 x hx)
    · rename_i hl
      have hel : lexLt e d = true := lex_tot _ _ (fun q => hd (by rw [q]; exact List.mem_cons_self)) (by simpa using hl)
      rw [List.pairwise_cons]
      refine ⟨fun x hx => ?_, insR_sorted d es (fun q => hd (List.mem_cons_of_mem _ q)) h.2⟩
      rcases List.mem_cons.mp ((insR_perm d es).mem_iff.mp hx) with rfl | hx
      · exact hel
      · exact h.1 x hx
theorem sortR_sorted : ∀ rs : List (List Int), rs.Nodup → (sortR rs).Pairwise (fun a b => lexLt a b = true)
  | [], _ => List.Pairwise.nil
  | r :: rs, h => by
    rw [List.nodup_cons] at h
    exact insR_sorted r _ (fun q => h.1 ((sortR_perm rs).mem_iff.mp q)) (sortR_sorted rs h.2)
theorem sorted_uniq : ∀ (l1 l2 : List (List Int)), l1.Perm l2 → l1.Pairwise (fun a b => lexLt a b = true) → l2.Pairwise (fun a b => lexLt a b = true) → l1 = l2
  | [], l2, hp, _, _ => by have := hp.length_eq; cases l2 with | nil => rfl | cons _ _ => simp at this
  | a :: l1, [], hp, _, _ => by have := hp.length_eq; simp at this
  | a :: l1, b :: l2, hp, h1, h2 => by
    rw [List.pairwise_cons] at h1 h2
    have hab : a = b := by
      rcases List.mem_cons.mp (hp.mem_iff.mp (List.mem_cons_self (a := a))) with e | ha
      · exact e
      · rcases List.mem_cons.mp (hp.mem_iff.mpr (List.mem_cons_self (a := b))) with e | hb
        · exact e.symm
        · have x1 := h2.1 a ha
          have x2 := h1.1 b hb
          have := lex_tr _ _ _ x1 x2
          rw [lex_irr] at this; cases this
    subst hab
    rw [sorted_uniq l1 l2 ((List.perm_cons a).mp hp) h1.2 h2.2]

theorem out_sorted {rs : List (List Int)} (hn : rs.Nodup) {p : Array Nat} (P : Prm rs.length p) (S : Srt (fun i j => lexLt (rs.getD i []) (rs.getD j [])) p rs.length) : p.toList.map (fun i => rs.getD i []) = sortR rs := by
  refine sorted_uniq _ _ ?_ ?_ (sortR_sorted rs hn)
  · refine ((P.perm.map _).trans ?_).trans (sortR_perm rs).symm
    have e : (List.range rs.length).map (fun i => rs.getD i []) = rs := by
      refine List.ext_getElem (by simp) fun i h1 h2 => ?_
      simp [h2]
    rw [e]
  · rw [List.pairwise_map, List.pairwise_iff_getElem]
    intro i j hi hj hij
    have hlen : p.toList.length = rs.length := by rw [Array.length_toList, P.size]
    obtain ⟨_, e1⟩ := P.get (i := i) (by omega)
    obtain ⟨_, e2⟩ := P.get (i := j) (by omega)
    have := S i j hij (by omega)
    rw [e1, e2] at this
    exact this
end
end Mine

end

section
open PySem PySem.W PySem.Calls PyProof.Rows PySem.Spec
namespace Mine

theorem sortR_small {rs : List (List Int)} (h : rs.length < 2) : sortR rs = rs := by
  match rs, h with
  | [], _ => rfl
  | [_], _ => rfl

section
variable {W : Wd} {X : Addr → Prop} {A : Around} {E : Value → Shared → Prop} {s : Shared}

theorem kat_tups {h : Heap} : ∀ {vs : List Value} {rs : List (List Int)}, Reps X h vs (rowsD rs) → (∀ r ∈ rs, r ≠ []) → ∃ fs, KatTups h vs fs ∧ fs.length = vs.length ∧ ∀ v ∈ fs, ∃ i t, v = .int i t := by
  intro vs
  induction vs with
  | nil => intro rs r _; exact ⟨[], trivial, rfl, fun _ h => by simp at h⟩
  | cons v vs ih =>
    intro rs r hne
    cases rs with
    | nil => cases r
    | cons r0 rs =>
      cases r with
      | cons h1 r =>
        obtain ⟨fs, a, b, c⟩ := ih (rs := rs) r fun r hr => hne r (List.mem_cons_of_mem _ hr)
        have hr0 := hne r0 List.mem_cons_self
        cases h1 with
        | @tup ad o xs n _ _ ho hc hd hrr hl =>
          cases r0 with
          | nil => exact absurd rfl hr0
          | cons i r0 =>
            generalize hxs : xs.toList = xl at hrr
            cases hrr with
            | cons q1 q2 =>
              cases q1 with
              | int _ t =>
                refine ⟨.int i t :: fs, KatTups.cons ho hc hd (by rw [← Array.getElem?_toList, hxs]; rfl) a, by simp [b], fun v hv => ?_⟩
                rcases List.mem_cons.mp hv with rfl | hv
                · exact ⟨i, t, rfl⟩
                · exact c v hv

theorem out_reps {h : Heap} {vs : List Value} {rs : List (List Int)} (r : Reps X h vs (rowsD rs)) : ∀ l : List Nat, (∀ i ∈ l, i < rs.length) → Reps X h (l.map fun i => vs.getD i Value.none) (rowsD (l.map fun i => rs.getD i []))
  | [], _ => .nil
  | i :: l, hl => .cons (rows_get r (hl i List.mem_cons_self)) (out_reps r l fun j hj => hl j (List.mem_cons_of_mem _ hj))

theorem row_list_sort {a : Addr} {n : Nat} {vs : List Value} {rs : List (List Int)} {P : PySem.Fin → Shared → Prop} (ho : s.heap.get? a = some (seqObj "list" vs.toArray n)) (hX : X a) (hr : Reps X s.heap vs (rowsD rs)) (hn : rs.Nodup) (h64 : rs.length < 64) (hne : ∀ r ∈ rs, r ≠ [])
    (h : ∀ h' out c, h'.get? a = some (seqObj "list" out.toArray c) → (∀ b o, b ≠ a → s.heap.get? b = some o → h'.get? b = some o) → Reps X h' out (rowsD (sortR rs)) → P (.done (.ret .none)) { s with heap := h' }) :
    wpAny (model W.prog W.w) A (Builtin.«list.sort» ⟨[.ref a], []⟩) P E s := by
  have hlen : vs.length = rs.length := by have := hr.length; unfold rowsD at this; rwa [List.length_map] at this
  have ha : a < s.heap.objs.size := Heap.lt_size ho
  have s1 := Heap.SameBut.update s.heap a (Obj.mapSeq fun _ => (#[] : Array Value))
  obtain ⟨e1, ho1⟩ : ∃ e1, (s.heap.update a (Obj.mapSeq fun _ => (#[] : Array Value))).get? a = some (seqObj "list" #[] e1) := ⟨_, get?_update_seq ho fun _ => #[]⟩
  rw [list_sort_plain]
  refine wpAny_bind (listItems_at ho rfl ?_)
  refine wpAny_bind (listUpdate_at ho rfl ?_ (by rw [List.size_toArray, sizeLine_eq]; omega) (Nat.zero_le _))
  refine wpAny_bind (seqEpoch_at ho1 rfl ?_)
  refine wpAny_bind (wpAny_newTuple ?_ (by show vs.length ≤ _; rw [sizeLine_eq]; omega))
  refine wpAny_bind (wpAny_newList ?_ (Nat.zero_le _))
  refine wpAny_holding ?_
  show wpAny (model W.prog W.w) A _ P E { s with heap := ((s.heap.update a (Obj.mapSeq fun _ => (#[] : Array Value))).push (seqObj "tuple" vs.toArray 0)).push (seqObj "list" #[] 0) }
  generalize hH : ((s.heap.update a (Obj.mapSeq fun _ => (#[] : Array Value))).push (seqObj "tuple" vs.toArray 0)).push (seqObj "list" #[] 0) = H
  have kp : ∀ b o, b ≠ a → s.heap.get? b = some o → H.get? b = some o := fun b o q e => by
    rw [← hH]
    exact push_keeps _ _ b o (push_keeps _ _ b o ((s1.2 b q).trans e))
  have hoH : H.get? a = some (seqObj "list" #[] e1) := by
    rw [← hH]
    exact push_keeps _ _ a _ (push_keeps _ _ a _ ho1)
  have rH : Reps X H vs (rowsD rs) := hr.map fun b o hb e => ⟨hb, kp b o (fun q => hb (q ▸ hX)) e⟩
  have fin : ∀ (st : SortSt) (out : List Value), (arrOf st).map (·.2) = out.toArray → failedOf st = none → out.length = rs.length → Reps X H out (rowsD (sortR rs)) → wpAny (model W.prog W.w) A (do
      let sorted := (arrOf st).map (·.2)
      let touched := (← seqEpoch a) != e1
      Builtin.List.listUpdate (.ref a) fun _ => sorted
      if let some e := failedOf st then rule "list.sort.comparison-raised"; throw e
      if touched then rule "list.sort.modified"; raiseError "ValueError" "list modified during sort"
      ret .none) P E { s with heap := H } := fun st out hout hf hol hro => by
    obtain ⟨c2, hc2⟩ : ∃ c2, (H.update a (Obj.mapSeq fun _ => out.toArray)).get? a = some (seqObj "list" out.toArray c2) := ⟨_, get?_update_seq hoH fun _ => out.toArray⟩
    have s2 := Heap.SameBut.update H a (Obj.mapSeq fun _ => out.toArray)
    dsimp only
    rw [hout]
    refine wpAny_bind (seqEpoch_at (s := { s with heap := H }) hoH rfl ?_)
    refine wpAny_bind (listUpdate_at (s := { s with heap := H }) hoH rfl ?_ (Nat.zero_le _) (by rw [List.size_toArray, sizeLine_eq]; omega))
    rw [hf]
    simp only [bne_self_eq_false, Bool.false_eq_true, if_false]
    refine wpAny_pure (h _ out c2 hc2 (fun b o q e => (s2.2 b q).trans (kp b o q e)) (hro.map fun b o hb e => ⟨hb, (s2.2 b fun q => hb (q ▸ hX)).trans e⟩))
  dsimp only
  by_cases hlt : vs.toArray.size < 2
  · rw [if_pos hlt, if_pos hlt]
    refine wpAny_bind (wpAny_pure ?_)
    refine wpAny_bind (wpAny_pure ?_)
    dsimp only
    refine fin _ vs ?_ rfl hlen ?_
    · show ((vs.toArray.zip vs.toArray).map (·.2)) = vs.toArray
      apply Array.toList_inj.mp
      rw [Array.toList_map, Array.toList_zip]
      exact List.map_snd_zip (by simp)
    · rw [List.size_toArray] at hlt
      rw [sortR_small (by omega)]
      exact rH
  · rw [if_neg hlt, if_neg hlt]
    rw [List.size_toArray] at hlt
    obtain ⟨fs, kt, kl, ki⟩ := kat_tups rH hne
    refine wpAny_bind (kat_kind (s := { s with heap := H }) (T := .type "int") kt (by omega) (fun v hv => ?_) (by simp) ?_)
    · obtain ⟨i, t, rfl⟩ := ki v hv
      exact Looks.of_pure rfl
    · have hb : (Value.type "int" != Value.type "tuple") = true := by decide
      rw [hb]
      obtain ⟨p', run, P', S', R'⟩ := sort_run (rows_ord hn) (by omega : 2 ≤ rs.length)
      refine wpAny_bind (wpAny_mono (kat_run (s := { s with heap := H }) (ks := vs) (vs := vs) (Q := fun st' s' => s' = { s with heap := H } ∧ (arrOf st').map (·.2) = (p'.toList.map fun i => vs.getD i Value.none).toArray ∧ failedOf st' = none) (G := fun p s' => s' = { s with heap := H } ∧ p = p')
        rfl (by omega) (by omega) (fun p st' s' a1 a2 a3 a4 => ⟨a4.1, by rw [← a4.2]; exact kat_snds rfl a2, a3⟩) ?_) ?_ fun _ _ x => x)
      · rw [hlen]
        refine wp_det (lt := fun i j => lexLt (rs.getD i []) (rs.getD j [])) (n := rs.length) (fun i j C hi hj hC => ?_) (kas_sort rs.length) R' ⟨rfl, run⟩
        exact row_lt (s := { s with heap := H }) (rows_get rH hi) (rows_get rH hj) hC
      · rintro ⟨⟨⟩, st'⟩ s' ⟨rfl, hout, hf⟩
        dsimp only
        have hlo : ∀ i ∈ p'.toList, i < rs.length := fun i hi => List.mem_range.mp (P'.perm.mem_iff.mp hi)
        refine fin st' _ hout hf (by rw [List.length_map, Array.length_toList, P'.size]) ?_
        have := out_reps rH p'.toList hlo
        rwa [out_sorted hn P' S'] at this
end
end Mine

end

section
open PySem PySem.W PySem.Calls PyProof.Rows PySem.Spec
namespace Mine

/-- a dict with just these entries -/
noncomputable def HAt (h : Heap) (d : Addr) (es : Array DictEntry) (ep : Nat) : Prop := ∃ o, h.get? d = some o ∧ o.ExactDict ∧ o.data = .dict es ep
theorem HAt.at' {h h' : Heap} {d : Addr} {es : Array DictEntry} {ep : Nat} (x : HAt h d es ep) (k : ∀ o, h.get? d = some o → h'.get? d = some o) : HAt h' d es ep := let ⟨o, ho, r⟩ := x; ⟨o, k o ho, r⟩
theorem HAt.lt {h : Heap} {d : Addr} {es : Array DictEntry} {ep : Nat} (x : HAt h d es ep) : d < h.objs.size := let ⟨_, ho, _⟩ := x; Heap.lt_size ho
theorem HAt.typeIs {s : Shared} {d : Addr} {es : Array DictEntry} {ep : Nat} (x : HAt s.heap d es ep) : s.TypeIs (.ref d) "dict" := let ⟨o, ho, hc, _⟩ := x; ⟨o, ho, hc.1⟩

section
variable {prog : Program} {w : World} {A : Around} {E : Value → Shared → Prop} {s : Shared} {it d : Addr} {es : Array DictEntry} {ep i : Nat}

theorem iter_keys {Q : Value → Shared → Prop} (hd : (d == sysModules) = false) (hm : HAt s.heap d es ep)
    (hQ : Q (.ref s.heap.objs.size) { s with heap := s.heap.push { cls := .type "dict_keyiterator", data := .fields #[.ref d, .int 0 0, .int es.size 0, .int ep 0] } }) :
    wpAny (model prog w) A (pyIter (.ref d)) Q E s := by
  have hT := hm.typeIs
  obtain ⟨o, ho, hc, hdat⟩ := id hm
  refine wpAny_pyIter_slot hT PySem.F.slot_dict_iter (wpAny_call_entry PySem.F.slot_dict_iter hT PySem.F.entry_dict_iter ?_ (PySem.F.args_dict_iter_1 _))
  unfold Builtin.«dict.__iter__»
  refine wpAny_bind ?_
  unfold Builtin.Dict.dictSlotNone
  refine wpAny_bind (wpAny_notOrdered_dict hT ?_)
  show wpAny _ _ (pure (Value.ref d)) _ _ s
  refine wpAny_pure ?_
  show wpAny _ _ (Builtin.Dict.showsAll d >>= _) _ _ s
  unfold Builtin.Dict.showsAll
  rw [if_neg (by rw [hd]; exact Bool.false_ne_true)]
  refine wpAny_bind (wpAny_pure ?_)
  refine wpAny_bind (wpAny_dictEntries ho hdat ?_)
  refine wpAny_bind (wpAny_dictEpoch ho hdat ?_)
  refine wpAny_bind (wpAny_newObj_type (wpAny_pure ⟨_, rfl, "dict_keyiterator", _, ⟨_, Heap.get?_push_size _ rfl, rfl⟩, PySem.F.slot_dict_keyiterator_next.lookup, ?_⟩))
  simpa [rawInt] using hQ

theorem next_key {Q : Option Value → Shared → Prop} {e : DictEntry} (hit : s.heap.IsKeyIter it d i es.size ep) (hm : HAt s.heap d es ep) (hx : es[i]? = some e)
    (hQ : ∀ h', h'.IsKeyIter it d (i + 1) es.size ep → Heap.SameBut it s.heap h' → Q (some e.key) { s with heap := h' }) :
    wpAny (model prog w) A (pyNext (.ref it)) Q E s := by
  obtain ⟨o, ho, hc, hd⟩ := id hit
  obtain ⟨od, hod, hcd, hdd⟩ := id hm
  unfold pyNext
  refine wpAny_bind (wpAny_attempt (wpAny_callSpecial?_slot (name := Str.ofString "__next__") hit.typeIs PySem.F.slot_dict_keyiterator_next
    (wpAny_call_entry PySem.F.slot_dict_keyiterator_next hit.typeIs PySem.F.entry_dict_keyiterator_next ?_ (PySem.F.args_dict_keyiterator_next_1 _))))
  refine wpAny_bind (wpAny_pure ?_)
  refine wpAny_bind ?_
  refine wpAny_bind ?_
  first | refine wpAny_bind (wpAny_typeNameOfWhole_keyiter hit.typeIs (wpAny_pure ?_)) | refine wpAny_bind (wpAny_typeNameOf_keyiter hit.typeIs (wpAny_pure ?_))
  refine wpAny_bind (wpAny_fieldsOf ho hd ?_)
  have hown : Builtin.Dict_items.ownsTuple "dict_keyiterator" = false := by decide
  rw [hown, if_neg Bool.false_ne_true]
  show wpAny _ _ (if (Value.ref d == Value.none) = true then _ else _) _ _ s
  rw [if_neg (show ¬ ((Value.ref d == Value.none) = true) from Bool.false_ne_true)]
  refine wpAny_bind (wpAny_pure ?_)
  refine wpAny_bind (wpAny_dictEntries hod hdd ?_)
  rw [if_neg (by simp)]
  refine wpAny_bind (wpAny_pure ?_)
  refine wpAny_bind (wpAny_dictEpoch hod hdd ?_)
  rw [if_neg (by simp)]
  refine wpAny_pure ?_
  simp only [show ¬ ((i : Int) < 0) from by omega, if_false, Int.toNat_natCast, hx]
  refine wpAny_bind ?_
  first | refine wpAny_bind (wpAny_typeNameOfWhole_keyiter hit.typeIs (wpAny_pure ?_)) | refine wpAny_bind (wpAny_typeNameOf_keyiter hit.typeIs (wpAny_pure ?_))
  refine wpAny_bind (wpAny_isOneOf_keyiter hit.typeIs ?_)
  show wpAny _ _ (setField (.ref it) 1 (rawInt ((i : Int) + 1)) >>= _) _ _ s
  refine wpAny_bind (wpAny_setField ho hd (by simp) ?_)
  have hit' : (s.heap.update it (Obj.mapFields (·.setIfInBounds 1 (rawInt ((i : Int) + 1))))).IsKeyIter it d (i + 1) es.size ep :=
    ⟨_, Heap.get?_update_self _ ho (Obj.isFreed_of_fields (Obj.data_mapFields hd _)), (Obj.cls_mapFields ..).trans hc, by rw [Obj.data_mapFields hd]; simp [rawInt]⟩
  refine wpAny_bind (wpAny_holding ?_)
  refine wpAny_bind (wpAny_isOneOf_keyiter (s := { s with heap := s.heap.update it (Obj.mapFields (·.setIfInBounds 1 (rawInt ((i : Int) + 1)))) }) hit'.typeIs ?_)
  show wpAny _ _ (pure e.key) _ _ _
  exact wpAny_pure (wpAny_pure ⟨_, rfl, wpAny_pure (hQ _ hit' (Heap.SameBut.update ..))⟩)

theorem end_keys {Q : Option Value → Shared → Prop} (hh : A.handled = none) (hit : s.heap.IsKeyIter it d i es.size ep) (hm : HAt s.heap d es ep) (hx : es.size ≤ i)
    (hQ : ∀ h', Heap.ExtBut it s.heap h' → Q none { s with heap := h' }) : wpAny (model prog w) A (pyNext (.ref it)) Q E s := by
  obtain ⟨o, ho, hc, hd⟩ := id hit
  obtain ⟨od, hod, hcd, hdd⟩ := id hm
  unfold pyNext
  refine wpAny_bind (wpAny_attempt (wpAny_callSpecial?_slot (name := Str.ofString "__next__") hit.typeIs PySem.F.slot_dict_keyiterator_next
    (wpAny_call_entry PySem.F.slot_dict_keyiterator_next hit.typeIs PySem.F.entry_dict_keyiterator_next ?_ (PySem.F.args_dict_keyiterator_next_1 _))))
  refine wpAny_bind (wpAny_pure ?_)
  refine wpAny_bind ?_
  refine wpAny_bind ?_
  first | refine wpAny_bind (wpAny_typeNameOfWhole_keyiter hit.typeIs (wpAny_pure ?_)) | refine wpAny_bind (wpAny_typeNameOf_keyiter hit.typeIs (wpAny_pure ?_))
  refine wpAny_bind (wpAny_fieldsOf ho hd ?_)
  have hown : Builtin.Dict_items.ownsTuple "dict_keyiterator" = false := by decide
  rw [hown, if_neg Bool.false_ne_true]
  show wpAny _ _ (if (Value.ref d == Value.none) = true then _ else _) _ _ s
  rw [if_neg (show ¬ ((Value.ref d == Value.none) = true) from Bool.false_ne_true)]
  refine wpAny_bind (wpAny_pure ?_)
  refine wpAny_bind (wpAny_dictEntries hod hdd ?_)
  rw [if_neg (by simp)]
  refine wpAny_bind (wpAny_pure ?_)
  refine wpAny_bind (wpAny_dictEpoch hod hdd ?_)
  rw [if_neg (by simp)]
  refine wpAny_pure ?_
  simp only [show ¬ ((i : Int) < 0) from by omega, if_false, Int.toNat_natCast, Array.getElem?_eq_none hx]
  refine wpAny_bind ?_
  first | refine wpAny_bind (wpAny_typeNameOfWhole_keyiter hit.typeIs (wpAny_pure ?_)) | refine wpAny_bind (wpAny_typeNameOf_keyiter hit.typeIs (wpAny_pure ?_))
  show wpAny _ _ (setField (.ref it) 0 .none >>= _) _ _ s
  refine wpAny_bind (wpAny_setField ho hd (by simp) ?_)
  show wpAny _ _ (newExc (.type "StopIteration") [] >>= _) _ _ _
  refine wpAny_bind ?_
  simp only [newExc, newTuple]
  refine wpAny_bind (wpAny_newObj_type ?_ (by size_fits))
  refine wpAny_bind (m := firstArgMember _ _) (wpAny_of_eq (a := Value.none) (by first | rfl | (simp only [firstArgMember]; rfl)) ?_)
  refine wpAny_newObj_type ?_ (by size_fits)
  simp only [raiseNew]
  refine wpAny_bind (wpAny_handled ?_)
  rw [show A.in1.handled = none from hh]
  refine wpAny_bind (wpAny_pure (wpAny_throw ?_))
  refine wpAny_bind (wpAny_isInstance (T := "StopIteration") (b := true) ⟨_, Heap.get?_push_size _ rfl, rfl⟩ isSubtype_stop ?_)
  exact wpAny_pure (hQ _ (((Heap.SameBut.update ..).extBut.push _).push _))

theorem walks_keys (hh : A.handled = none) (I d : Addr) (hne : d ≠ I) (es : Array DictEntry) (ep : Nat) :
    Walks prog w A I [I, d] [I] es.size (fun i v => ∃ e, es[i]? = some e ∧ v = e.key) (fun i h => h.IsKeyIter I d i es.size ep ∧ HAt h d es ep) where
  sub := fun b hb => by simp at hb; simp [hb]
  frame := fun _ _ _ st hk => ⟨st.1.at fun o e => hk I (by simp) o e, st.2.at' fun o e => hk d (by simp) o e⟩
  item := fun i s Q E hi st hQ => by
    refine next_key st.1 st.2 (e := es[i]) (by simp [hi]) fun h' hit' hs' => ?_
    exact hQ _ h' s.toks ⟨es[i], by simp [hi], rfl⟩ ⟨hit', st.2.at' fun o e => hs'.extBut d o hne e⟩ fun b o hb e => hs'.extBut b o (fun h => hb (by simp [h])) e
  done := fun s Q E st hQ => end_keys hh st.1 st.2 (Nat.le_refl _) fun h' he' => hQ h' s.toks fun b o hb e => he' b o (fun h => hb (by simp [h])) e
  self := fun _ _ _ _ st hQ => wpAny_pyIter_keyiter st.1 hQ

theorem src_keys (lo : (d == sysModules) = false) : KdlSrc prog w "dict" d d es.size (fun i v => ∃ e, es[i]? = some e ∧ v = e.key) (fun h => HAt h d es ep) where
  type := fun _ hm => hm.typeIs
  there := fun _ hm => ⟨hm.lt, hm.lt⟩
  keep := fun _ _ hm hk => hm.at' fun o e => hk d (.inl rfl) o e
  notList := by decide
  notTuple := by decide
  hint := fun _ _ _ _ hm hq => kdl_hint_dict hm.typeIs hq
  iter := fun _ _ hh hm => ⟨_, _, (fun _ _ hq => iter_keys lo hm hq), walks_keys hh _ d (Nat.ne_of_lt hm.lt) es ep, ⟨⟨_, Heap.get?_push_size _ rfl, rfl, rfl⟩, hm.at' fun o e => push_keeps _ _ d o e⟩⟩
end
end Mine

end

section
open PySem PySem.W PySem.Calls PyProof.Rows PySem.Spec
namespace Mine

section
variable {W : Wd} {X : Addr → Prop} {σ : Nat} {A : Around} {E : Value → Shared → Prop} {s : Shared}

theorem sorted_src {T : String} {r d : Addr} {n : Nat} {Pi : Nat → Value → Prop} {OK : Heap → Prop} {rs : List (List Int)} {Q : Value → Shared → Prop} (Wo : WdOk W) (K : KdlSrc W.prog W.w T r d n Pi OK) (hh : A.handled = none) (hok : OK s.heap)
    (x : XOk W X s.heap) (i : Inv W σ s.heap) (hlen : n < 64) (hP : ∀ (acc : List Value) (h' : Heap), (∀ b o, s.heap.get? b = some o → h'.get? b = some o) → acc.length = n → (∀ (j : Nat) (v : Value), acc[j]? = some v → Pi j v) → ∃ rs' : List (List Int), rs'.Perm rs ∧ Reps X h' acc (rowsD rs'))
    (hn : rs.Nodup) (hne : ∀ r ∈ rs, r ≠ []) (hrl : rs.length = n) (P : PostV W X σ (.d (.list (rowsD (sortR rs)))) s Q) : wpAny (model W.prog W.w) A (call (.builtin "sorted") [.ref r]) Q E s := by
  refine call_function_entry kind_sorted plain_sorted entry_sorted (args_sorted1 _) ?_
  unfold Builtin.«sorted»
  refine wpAny_bind (m := checkCount "sorted" 1 1 _) (wpAny_pure ?_)
  refine wpAny_bind (kdu_collect (A := A.in1) K hh hok (by rw [sizeLine_eq]; omega) fun h' tk acc hk hacc => ?_)
  have hl : acc.toList.length = n := by rw [Array.length_toList]; exact hacc.1
  obtain ⟨rs', hperm, hr⟩ := hP acc.toList h' hk hl fun j v e => hacc.2 j v (by rw [← Array.getElem?_toList]; exact e)
  refine wpAny_bind (wpAny_newList ?_ (by rw [hl, sizeLine_eq]; omega))
  have kp := push_keeps h' (seqObj "list" acc.toList.toArray 0)
  have hD : (h'.push (seqObj "list" acc.toList.toArray 0)).get? h'.objs.size = some (seqObj "list" acc.toList.toArray 0) := Heap.get?_push_size _ rfl
  have nD : s.heap.get? h'.objs.size = none := none_back hk (get_end _ (Nat.le_refl _))
  have e9 : sortR rs' = sortR rs := sorted_uniq _ _ (((sortR_perm rs').trans hperm).trans (sortR_perm rs).symm) (sortR_sorted rs' (hperm.nodup_iff.mpr hn)) (sortR_sorted rs hn)
  refine wpAny_bind (wpAny_holding (wpAny_call_entry slot_list_sort ⟨_, hD, rfl⟩ entry_list_sort ?_ (args_list_sort _)))
  refine row_list_sort (X := fun b => X b ∨ b = h'.objs.size) (rs := rs') hD (.inr rfl) (hr.map fun b o hb e => ⟨fun q => q.elim hb fun q => Nat.lt_irrefl _ (q ▸ Heap.lt_size e), kp b o e⟩) (hperm.nodup_iff.mpr hn) (by rw [hperm.length_eq]; omega) (fun r hr => hne r (hperm.mem_iff.mp hr)) fun h2 out c hout k2 hro => ?_
  rw [e9] at hro
  have kfin : ∀ b o, s.heap.get? b = some o → h2.get? b = some o := fun b o e => k2 b o (fun q => by rw [q, nD] at e; cases e) (kp b o (hk b o e))
  refine ⟨.none, rfl, wpAny_pure ⟨_, rfl, P _ h2 _ (Gr.of_keeps kfin) (i.keeps Wo kfin) ?_⟩⟩
  refine .list (fun q => ?_) hout rfl rfl rfl (hro.wide fun b hb => .inl hb) ?_
  · obtain ⟨o, e⟩ := x.at_ _ q
    rw [nD] at e; cases e
  · unfold rowsD
    rw [List.length_map, (sortR_perm rs).length_eq, hrl]
    unfold LIM; omega

theorem isRow1_ne {rs : List (List Int)} (h : (rowsD rs).all isRow1 = true) : ∀ r ∈ rs, r ≠ [] := by
  rintro r hr rfl
  rw [List.all_eq_true] at h
  have := h _ (List.mem_map_of_mem hr : rowD [] ∈ rowsD rs)
  simp [isRow1, rowD] at this

theorem keys_reps {h h' : Heap} (kp : ∀ b o, h.get? b = some o → h'.get? b = some o) : ∀ {xs : List (List Int × Addr × Value)}, (∀ x ∈ xs, Rep X h (.ref x.2.1) (rowD x.1)) → Reps X h' (xs.map fun x => Value.ref x.2.1) (xs.map (rowD ∘ fun x => x.1))
  | [], _ => .nil
  | y :: ys, hrs => .cons ((hrs y List.mem_cons_self).map fun b o hb e => ⟨hb, kp b o e⟩) (keys_reps kp fun z hz => hrs z (List.mem_cons_of_mem _ hz))

theorem sorted_keys_ok (Wo : WdOk W) {ks : List D} {u : Value} {Q : Value → Shared → Prop} (hh : A.handled = none) (x : XOk W X s.heap) (i : Inv W σ s.heap) (hk : ks.all isRow1 = true) (hl : ks.length < 64) (r : RepV W X s.heap u (.keys ks))
    (P : PostV W X σ (.d (.list (sortRows ks))) s Q) : wpAny (model W.prog W.w) A (call (.builtin "sorted") [u]) Q E s := by
  obtain ⟨a, rfl, hx, hsys, K⟩ := r
  obtain ⟨xs, hD, e, hrs⟩ : ∃ xs : List (List Int × Addr × Value), s.heap.DictOfH (rowKey W) a xs ∧ ks = xs.map (fun x => rowD x.1) ∧ ∀ x ∈ xs, Rep X s.heap (.ref x.2.1) (rowD x.1) := by
    rcases K with h | ⟨kvs, hD, e⟩
    · exact h
    · cases kvs with
      | nil =>
        have e' : ks = [] := e
        subst e'
        exact ⟨[], (KeysAt.none (W := W) (X := X) (.inr ⟨[], hD, rfl⟩)).1, rfl, fun _ h => by simp at h⟩
      | cons y kvs =>
        exfalso
        rw [e] at hk
        simp [isRow1, isRow] at hk
  obtain ⟨o, es, ep, ho, hc, hd, he, his, hnd⟩ := hD
  have hks : ks = rowsD (xs.map (·.1)) := by rw [e]; unfold rowsD; rw [List.map_map]; rfl
  have hsz : es.size = xs.length := by rw [← Array.length_toList, he, List.length_map]
  have hxl : xs.length = ks.length := by rw [e, List.length_map]
  rw [hks, sortR_D] at P
  refine sorted_src (rs := xs.map (·.1)) Wo (src_keys (es := es) (ep := ep) hsys) hh ⟨o, ho, hc, hd⟩ x i (by omega) (fun acc h' hk' hal hacc => ⟨_, List.Perm.refl _, ?_⟩) hnd (isRow1_ne (by rw [← hks]; exact hk)) (by rw [List.length_map]; omega) P
  have hacc' : acc = xs.map fun x => Value.ref x.2.1 := by
    refine List.ext_getElem? fun j => ?_
    rw [List.getElem?_map]
    cases hx1 : xs[j]? with
    | none =>
      have : acc[j]? = none := List.getElem?_eq_none (by have := List.getElem?_eq_none_iff.mp hx1; omega)
      rw [this]; rfl
    | some y =>
      have hj : j < acc.length := by have := (List.getElem?_eq_some_iff.mp hx1).1; omega
      obtain ⟨en, hen, hv⟩ := hacc j acc[j] (List.getElem?_eq_getElem hj)
      rw [List.getElem?_eq_getElem hj, hv]
      rw [← Array.getElem?_toList, he, List.getElem?_map, hx1] at hen
      simp only [Option.map_some, Option.some.injEq] at hen
      rw [← hen]
      rfl
  rw [hacc']
  unfold rowsD
  rw [List.map_map]
  exact keys_reps hk' hrs
end
end Mine

end

section
open PySem PySem.W PySem.Calls PyProof.Rows PySem.Spec
namespace Mine

section
variable {W : Wd} {T : Tab} {G : Str → Option V} {k n : Nat} {X : Addr → Prop} {nm : Names} {env : Env} {ρ : Rho} {σ σ' : Nat} {A : Around} {E : Value → Shared → Prop} {s : Shared}

/-- the feed has turned -/
theorem St.drawn {h h' : Heap} (O : EnvOK W nm env) (S : St W X nm env ρ σ h) (hs : Heap.SameBut W.fd h h') (hF : W.F h' σ') : St W X nm env ρ σ' h' := by
  have g : Gr W h h' := fun b o q e => (hs.2 b q).trans e
  have hne : W.cl ≠ W.fd := fun q => S.x.cl (q ▸ S.x.fd)
  refine S.gr O g ⟨fun b o e => g b o (fun q => ?_) (S.i.base b o e), hF, ?_, ?_⟩
  · have := S.x.base W.fd S.x.fd
    rw [← q, e] at this; cases this
  · obtain ⟨⟨_, ⟨o, _, _, ho, _⟩⟩, _⟩ := hF
    exact ⟨o, ho⟩
  · obtain ⟨o, e⟩ := S.i.clat
    exact ⟨o, g _ o hne e⟩

theorem feed_stored {a : Value} {t t' : Tok} : stored [(("cells" : Str), a), (("spot" : Str), Value.int (σ : Int) t)] ("spot" : Str) (Value.int ((σ : Int) + 1) t') = [(("cells" : Str), a), (("spot" : Str), Value.int ((σ + 1 : Nat) : Int) t')] := rfl

theorem draw_stm {p1 p2 p3 p4 p5 p6 p7 p8 p9 : Pos} {k1 k2 k3 : Nat} {cs : List Int} {Q : Flow → Shared → Prop} (hn : nm.lookup ("feed" : Str) = some .local) (hρ : ρ.lookup ("feed" : Str) = some (.feed cs)) (O : EnvOK W nm env) (S : St W X nm env ρ σ s.heap)
    (h : ∀ h' tk, Gr W s.heap h' → St W X nm env ρ (σ + 1) h' → Q .next { s with heap := h', toks := tk }) :
    wpAny (model W.prog W.w) A (exec (.Assign [.Subscript (.Name ("feed" : Str) p1) (.Constant (.str ("spot" : Str)) k1 p2) p3] (.BinOp (.Subscript (.Name ("feed" : Str) p4) (.Constant (.str ("spot" : Str)) k2 p5) p6) .Add (.Constant (.int 1) k3 p7) p8) p9) env) Q E s := by
  refine wpAny_Assign_Subscript ?_ rfl
  refine wpAny_BinOp (Subscript_ (load_ok O S (.inl hn) hρ fun u r => ?_))
  obtain ⟨rfl, rfl⟩ := r
  refine wpAny_Constant_str ?_
  obtain ⟨⟨t, hD⟩, hcl⟩ := S.i.feed
  refine tail_any (T := "dict") (ops := [.ref W.fd, .str ("spot" : Str) s.toks]) (hD.typeIs (s := { s with toks := s.toks + 1 })) slot_dict_getitem.lookup (wpAny_getItem_of (knd := PySem.strKind W.prog W.w) (k := ("spot" : Str)) (by simp [PySem.strKind, Value.isStrOf]) hD.mapOf (v := .int σ t) (by rfl) ?_) rfl
  refine wpAny_Constant_int (PyProof.Rows.add_int ?_)
  refine load_ok (s := { s with toks := _ }) O S (.inl hn) hρ fun u r => ?_
  obtain ⟨rfl, _⟩ := r
  refine wpAny_Constant_str ?_
  refine wpAny_setItem_pairs (knd := PySem.strKind W.prog W.w) (k := ("spot" : Str)) (by simp [PySem.strKind, Value.isStrOf]) hD (fun h' hD' hs => ?_) (by rw [sizeLine_eq]; exact (by decide : 2 ≤ 16777216))
  rw [feed_stored] at hD'
  refine h h' _ (fun b o q e => (hs.2 b q).trans e) (S.drawn O hs ⟨⟨_, hD'⟩, ?_⟩)
  · obtain ⟨o, vs, n, ho, hc, hd, hdn, hr⟩ := hcl
    have hne : W.cl ≠ W.fd := fun q => S.x.cl (q ▸ S.x.fd)
    exact ⟨o, vs, n, (hs.2 _ hne).trans ho, hc, hd, hdn, ints_reps hr⟩

/-- the body of _law_draw -/
noncomputable def DrawBody (df : Def) : Prop := ∃ p1 p2 p3 p4 p5 p6 p7 p8 p9 k1 k2 k3, df.body = .Assign [.Subscript (.Name ("feed" : Str) p1) (.Constant (.str ("spot" : Str)) k1 p2) p3] (.BinOp (.Subscript (.Name ("feed" : Str) p4) (.Constant (.str ("spot" : Str)) k2 p5) p6) .Add (.Constant (.int 1) k3 p7) p8) p9 :: df.body.drop 1

theorem draw_run (Wo : WdOk W) (Go : GOK W G) (TO : TabOK W k T) (EO : EvOK W) {df : Def} {cs : List Int} {wide : Int} {v : V} {fuel : Nat} (hb : DrawBody df) (hp : df.params = [("feed" : Str), ("wide" : Str)]) (hn : df.names.lookup ("feed" : Str) = some .local)
    (h : exs T G fuel df.names (df.body.drop 1) (df.params.zip [.feed cs, .d (.int wide)]) (σ + 1) = some (.ret v, σ')) : Runs W k df [.feed cs, .d (.int wide)] σ v σ' := by
  intro env A X E s Q O R S P
  obtain ⟨p1, p2, p3, p4, p5, p6, p7, p8, p9, k1, k2, k3, hb⟩ := hb
  rw [hb]
  refine wpAny_execs_cons (draw_stm hn (by rw [hp]; rfl) O S fun h' tk g S' => ?_)
  refine (stm_sound Wo Go TO EO fuel).2 df.names (df.body.drop 1) _ (σ + 1) _ σ' h env A X E { s with heap := h', toks := tk } Q O R S' ?_
  exact fun u h2 tk2 kf i2 r2 => P u h2 tk2 (KF.trans (KF.of_gr g) kf) i2 r2
end
end Mine

end

section
open PySem PySem.W PySem.Calls PyProof.Rows PySem.Spec
namespace Mine

/-- lists beneath ints, each an object of its own -/
inductive GL (X : Addr → Prop) (h : Heap) (m : Nat) : List (Int × Value) → List (Int × List D) → List Addr → Prop
  | nil : GL X h m [] [] []
  | cons {i : Int} {a : Addr} {vs : Array Value} {ds : List D} {kvs : List (Int × Value)} {g : List (Int × List D)} {as : List Addr} : X a → h.PlainList a vs → Reps X h vs.toList ds → ds.length ≤ m → a ∉ as → GL X h m kvs g as → GL X h m ((i, .ref a) :: kvs) ((i, ds) :: g) (a :: as)

section
variable {X Y : Addr → Prop} {h h' : Heap} {m m' : Nat} {kvs : List (Int × Value)} {g : List (Int × List D)} {as : List Addr}

theorem GL.map (hm : m ≤ m') (hX : ∀ b, X b → Y b) (hk : ∀ b o, ¬ X b → h.get? b = some o → ¬ Y b ∧ h'.get? b = some o) (ha : ∀ a ∈ as, ∀ o, h.get? a = some o → h'.get? a = some o) (r : GL X h m kvs g as) : GL Y h' m' kvs g as := by
  induction r with
  | nil => exact .nil
  | cons h1 h2 h3 h4 h5 _ ih => exact .cons (hX _ h1) (h2.at (ha _ List.mem_cons_self)) (h3.map hk) (Nat.le_trans h4 hm) h5 (ih fun a hm => ha a (List.mem_cons_of_mem _ hm))

theorem GL.keys (r : GL X h m kvs g as) : g.map (·.1) = kvs.map (·.1) := by
  induction r with
  | nil => rfl
  | cons _ _ _ _ _ _ ih => simp [ih]

theorem GL.get {i : Int} {v : Value} (r : GL X h m kvs g as) (hv : valueAt kvs i = some v) : ∃ l vs, v = .ref l ∧ l ∈ as ∧ X l ∧ h.PlainList l vs ∧ vs.size ≤ m ∧ g.any (fun p => p.1 == i) = true := by
  induction r with
  | nil => simp [valueAt] at hv
  | @cons j a vs ds kvs g as h1 h2 h3 h4 h5 _ ih =>
    unfold valueAt at hv ih
    rw [List.find?_cons] at hv
    by_cases q : j = i
    · subst q
      simp only [decide_true, Option.map_some, Option.some.injEq] at hv
      subst hv
      exact ⟨a, vs, rfl, List.mem_cons_self, h1, h2, by have := h3.length; rw [Array.length_toList] at this; omega, by simp⟩
    · simp only [q, decide_false] at hv
      obtain ⟨l, vs', e, a1, a2, a3, a4, a5⟩ := ih hv
      exact ⟨l, vs', e, List.mem_cons_of_mem _ a1, a2, a3, a4, by simp [a5]⟩

theorem GL.miss {i : Int} (r : GL X h m kvs g as) (hv : valueAt kvs i = none) : g.any (fun p => p.1 == i) = false := by
  induction r with
  | nil => rfl
  | @cons j a vs ds kvs g as h1 h2 h3 h4 h5 _ ih =>
    unfold valueAt at hv ih
    rw [List.find?_cons] at hv
    by_cases q : j = i
    · subst q; simp at hv
    · simp only [q, decide_false] at hv
      have := ih hv
      simp [this, q]

theorem GL.add {i : Int} {a : Addr} (r : GL X h m kvs g as) (hX : X a) (hp : h.PlainList a #[]) (ha : a ∉ as) : GL X h m (kvs ++ [(i, .ref a)]) (g ++ [(i, [])]) (as ++ [a]) := by
  induction r with
  | nil => exact .cons hX hp .nil (Nat.zero_le _) (by simp) .nil
  | @cons j b vs ds kvs g as h1 h2 h3 h4 h5 _ ih =>
    simp only [List.mem_cons, not_or] at ha
    refine .cons h1 h2 h3 h4 (fun q => ?_) (ih ha.2)
    rcases List.mem_append.mp q with q | q
    · exact h5 q
    · exact ha.1 (List.mem_singleton.mp q).symm

theorem map_off {i : Int} {d : D} : ∀ {g : List (Int × List D)}, i ∉ g.map (·.1) → g.map (fun p => if p.1 == i then (p.1, p.2 ++ [d]) else p) = g := by
  intro g
  induction g with
  | nil => intro _; rfl
  | cons p g ih =>
    intro h
    simp only [List.map_cons, List.mem_cons, not_or] at h
    rw [List.map_cons, ih h.2, if_neg (by simpa using fun q => h.1 q.symm)]

theorem GL.put {i : Int} {l : Addr} {vs : Array Value} {x : Value} {d : D} (r : GL X h m kvs g as) (hn : (kvs.map (·.1)).Nodup) (hv : valueAt kvs i = some (.ref l)) (hl : h.PlainList l vs) (hs : Heap.SameBut l h h') (hp : h'.PlainList l (vs.push x)) (rx : Rep X h' x d) :
    GL X h' (m + 1) kvs (g.map fun p => if p.1 == i then (p.1, p.2 ++ [d]) else p) as := by
  have km : ∀ c, X c → ∀ b o, ¬ X b → h.get? b = some o → b ≠ l → ¬ X b ∧ h'.get? b = some o := fun c _ b o hb e q => ⟨hb, (hs.2 b q).trans e⟩
  induction r with
  | nil => simp [valueAt] at hv
  | @cons j a ws ds kvs g as h1 h2 h3 h4 h5 r' ih =>
    simp only [List.map_cons, List.nodup_cons] at hn
    unfold valueAt at hv
    rw [List.find?_cons] at hv
    by_cases q : j = i
    · subst q
      simp only [decide_true, Option.map_some, Option.some.injEq, Value.ref.injEq] at hv
      subst hv
      have e : ws = vs := by
        obtain ⟨n1, e1⟩ := h2
        obtain ⟨n2, e2⟩ := hl
        rw [e1] at e2
        simp only [Option.some.injEq, Obj.mk.injEq, Data.seq.injEq] at e2
        exact e2.2.2.1.1
      subst e
      rw [List.map_cons, if_pos (by simp), map_off (by rw [r'.keys]; exact hn.1)]
      refine .cons h1 hp ?_ (by simp; omega) h5 (r'.map (Nat.le_succ _) (fun _ z => z) (fun b o hb e => ⟨hb, (hs.2 b fun z => hb (z ▸ h1)).trans e⟩) fun b hb o e => (hs.2 b fun z => h5 (z ▸ hb)).trans e)
      rw [Array.toList_push]
      exact (h3.map fun b o hb e => ⟨hb, (hs.2 b fun z => hb (z ▸ h1)).trans e⟩).snoc rx
    · simp only [q, decide_false] at hv
      obtain ⟨l', _, e', hla, hXl, _⟩ := r'.get (i := i) (v := .ref l) hv
      cases e'
      rw [List.map_cons, if_neg (by simpa using q)]
      have hal : a ≠ l := fun z => h5 (z ▸ hla)
      exact .cons h1 (h2.at fun o e => (hs.2 a hal).trans e) (h3.map fun b o hb e => ⟨hb, (hs.2 b fun z => hb (z ▸ hXl)).trans e⟩) (Nat.le_succ_of_le h4) h5 (ih hn.2 hv)

theorem addG_eq (g : List (Int × List D)) (i : Int) (d : D) : addG g i d = (if g.any (fun p => p.1 == i) then g else g ++ [(i, [])]).map fun p => if p.1 == i then (p.1, p.2 ++ [d]) else p := by
  unfold addG
  split
  · rfl
  · rename_i h
    rw [List.map_append, map_off]
    · simp
    · intro q
      obtain ⟨p, hp, e⟩ := List.mem_map.mp q
      exact h (List.any_eq_true.mpr ⟨p, hp, by simpa using e⟩)

theorem GL.grp (hm : m < LIM) (hY : ∀ a ∈ as, ¬ Y a) (hk : ∀ b, Y b → X b) (r : GL X h m kvs g as) : GrpAt Y h kvs g := by
  induction r with
  | nil => exact .nil
  | cons h1 h2 h3 h4 h5 _ ih =>
    obtain ⟨n, e⟩ := h2
    exact .cons (.list (hY _ List.mem_cons_self) e rfl rfl rfl (h3.wide hk) (by omega)) (ih fun a ha => hY a (List.mem_cons_of_mem _ ha))
end

/-- the dict of lists that join grows; Z: what else is turned meanwhile -/
structure JS (W : Wd) (X Z : Addr → Prop) (a : Addr) (m : Nat) (h : Heap) (g : List (Int × List D)) : Prop where
  ex : ∃ kvs as, h.DictOf (intKey W) a kvs ∧ GL X h m kvs g as ∧ kvs.length ≤ m ∧ (∀ b ∈ as, ¬ Z b ∧ b ≠ a)
  x : X a
  z : ¬ Z a
  sys : (a == sysModules) = false

theorem JS.map {W : Wd} {X Z : Addr → Prop} {a : Addr} {m : Nat} {h h' : Heap} {g : List (Int × List D)} (J : JS W X Z a m h g) (hZ : ∀ b, Z b → X b) (k : ∀ b o, ¬ Z b → h.get? b = some o → h'.get? b = some o) : JS W X Z a m h' g := by
  obtain ⟨kvs, as, hD, hG, hl, hs⟩ := J.ex
  exact ⟨⟨kvs, as, Heap.DictOf.at' hD fun o e => k a o J.z e, hG.map (Nat.le_refl _) (fun _ q => q) (fun b o hb e => ⟨hb, k b o (fun q => hb (hZ b q)) e⟩) fun b hb o e => k b o (hs b hb).1 e, hl, hs⟩, J.x, J.z, J.sys⟩
end Mine

end

section
open PySem PySem.W PySem.Calls PyProof.Rows PySem.Spec
namespace Mine

theorem eval_methodO {o : Expr} {m : Str} {q p : Pos} {args : List Expr} {env : Env} (ho : attributeBase o m env (eval o env) = eval o env) (hl : (q.endLine == p.line) = true) (hn : args.length < 20) (hp : (backTo p (starEach args env)).any (·.1) = false) :
    eval (.Call (.Attribute o m q) args [] p) env = (do
      let ov ← eval o env
      standAt q.atName
      let (f, first) ← holding [ov] (getMethod ov m (do return (← importBound o env).getD true))
      callWith p f first (backTo p (starEach args env)) (backToKw p (keywordEach [] env))) := by
  have e0 : eval (.Call (.Attribute o m q) args [] p) env = (do
    let ov ← attributeBase o m env (eval o env)
    standAt q.atName
    methodCall o m q p env ov (args.length + ([] : List Keyword).length) (backTo p (starEach args env)) (backToKw p (keywordEach [] env))) := rfl
  rw [e0]
  have e1 : methodCallForm (args.length + ([] : List Keyword).length) (backTo p (starEach args env)) (backToKw p (keywordEach [] env)) = true := by
    unfold methodCallForm
    have h1 : (backTo p (starEach args env)).all (!·.1) = true := by
      rw [List.all_eq_true]
      rw [List.any_eq_false] at hp
      intro y hy
      simpa using hp y hy
    rw [h1]
    have h2 : backToKw p (keywordEach [] env) = [] := rfl
    rw [h2]
    simp only [List.length_nil, List.all_nil, List.isEmpty_nil, Bool.and_self, Bool.true_and, if_true, decide_eq_true_eq]
    omega
  have e2 : methodCallPos true o env q p = pure p := by
    unfold methodCallPos
    simp [hl]
  have e3 : ∀ ov, methodCall o m q p env ov (args.length + ([] : List Keyword).length) (backTo p (starEach args env)) (backToKw p (keywordEach [] env)) = (do
      let (f, first) ← holding [ov] (getMethod ov m (do return (← importBound o env).getD true))
      callWith p f first (backTo p (starEach args env)) (backToKw p (keywordEach [] env))) := by
    intro ov
    unfold methodCall
    rw [e1, e2]
    rfl
  rw [ho]
  congr 1
  funext ov
  rw [e3]

section
variable {W : Wd} {T : Tab} {G : Str → Option V} {k n : Nat} {X Z : Addr → Prop} {nm : Names} {env : Env} {ρ : Rho} {σ σ' : Nat} {A : Around} {E : Value → Shared → Prop} {s : Shared}

theorem GL.live {h : Heap} {m : Nat} {kvs : List (Int × Value)} {g : List (Int × List D)} {as : List Addr} (r : GL X h m kvs g as) : ∀ a ∈ as, ∃ o, h.get? a = some o := by
  induction r with
  | nil => intro a ha; simp at ha
  | cons _ h2 _ _ _ _ ih =>
    intro a ha
    rcases List.mem_cons.mp ha with rfl | ha
    · obtain ⟨n, e⟩ := h2
      exact ⟨_, e⟩
    · exact ih a ha

theorem join_expr (Wo : WdOk W) (I9 : AllS W T G k 10) {a : Addr} {m : Nat} {g : List (Int × List D)} {i0 : Int} {rest : List D} {p1 p2 p3 p4 p5 p6 p7 p8 p9 p10 p11 p12 q1 q2 : Pos} {k0 k1 : Nat} {Q : Flow → Shared → Prop}
    (hq1 : (q1.endLine == p1.line) = true) (hq2 : (q2.endLine == p2.line) = true) (O : EnvOK W nm env) (R : Room k A) (S : St W X nm env ρ σ s.heap)
    (hb : nm.lookup ("begun" : Str) = some .cell) (hbr : ρ.lookup ("begun" : Str) = some (.at a)) (hl : nm.lookup ("late" : Str) = some .local) (hlr : ρ.lookup ("late" : Str) = some (.d (.tup (.int i0 :: rest))))
    (J : JS W X Z a m s.heap g) (hm : m + 1 < LIM) (hZ : ∀ b, Z b → X b) (hZo : ∀ b, Own env b → Z b) (hZf : Z W.fd)
    (h : ∀ h' tk Y, (∀ b, X b → Y b) → (∀ b, Y b → X b ∨ (s.heap.get? b = none ∧ ∃ o, h'.get? b = some o)) → (∀ b o, b ≠ W.fd → (¬ X b ∨ Z b) → s.heap.get? b = some o → h'.get? b = some o) → St W Y nm env ρ σ h' → JS W Y Z a (m + 1) h' (addG g i0 (.tup rest)) → Q .next { s with heap := h', toks := tk }) :
    wpAny (model W.prog W.w) A (exec (.Expr (.Call (.Attribute (.Call (.Attribute (.Name ("begun" : Str) p4) ("setdefault" : Str) q1) [.Subscript (.Name ("late" : Str) p5) (.Constant (.int 0) k0 p6) p7, .List [] p8] [] p1) ("append" : Str) q2)
      [.Subscript (.Name ("late" : Str) p9) (.Slice (some (.Constant (.int 1) k1 p10)) none none p11) p12] [] p2) p3) env) Q E s := by
  refine wpAny_Expr ?_ (by unfold interactive; rw [O.kind]; rfl) rfl
  refine methodCall_KW ?_ (eval_methodO rfl hq2 (by simp) (by rfl))
  refine methodCall_KW (load_ok O S (.inr (.inl hb)) hbr fun u r => ?_) (eval_methodO rfl hq1 (by simp) (by rfl))
  have r' : u = .ref a := r
  subst r'
  obtain ⟨kvs, as, hD, hG, hkl, hs⟩ := J.ex
  refine getMethod_builtin hD.typeIs PySem.F.plainAttrs_dict PySem.F.slot_dict_setdefault PySem.F.type_dict_setdefault hD.mapOf.noDict ?_
  show wpAny _ _ (callWith p1 (.builtin "dict.setdefault") [.ref a] [(false, eval (.Subscript (.Name ("late" : Str) p5) (.Constant (.int 0) k0 p6) p7) env), (false, eval (.List [] p8) env)] []) _ _ _
  have hev0 : ev T G 10 nm (.Subscript (.Name ("late" : Str) p5) (.Constant (.int 0) k0 p6) p7) ρ σ = some (.d (.int i0), σ) := by
    exact bto (show ev T G 9 nm (.Name ("late" : Str) p5) ρ σ = some (.d (.tup (.int i0 :: rest)), σ) from bto hl (bto hlr rfl)) rfl
  refine method2_meetsIn PySem.F.slot_dict_setdefault PySem.F.entry_dict_setdefault (I9.ev nm _ ρ σ _ _ hev0 env A X E s _ O R S fun ui h1 tk1 g1 i1 r1 => ?_)
  have S1 := S.gr O g1 i1
  refine wpAny_List (args_nil ⟨Nat.zero_le _, ?_⟩)
  have kp2 := push_keeps h1 { cls := .type "list", data := .seq ([] : List Value).toArray }
  have nl : h1.get? h1.objs.size = none := get_end _ (Nat.le_refl _)
  have nl0 : s.heap.get? h1.objs.size = none := none_gr g1 i1 nl
  have hplain : (h1.push { cls := .type "list", data := .seq ([] : List Value).toArray }).PlainList h1.objs.size #[] := ⟨0, Heap.get?_push_size _ rfl⟩
  -- l0 is shut out from here on
  have hYsub : ∀ b, X b → X b ∨ b = h1.objs.size := fun b => .inl
  have S2 : St W (fun b => X b ∨ b = h1.objs.size) nm env ρ σ (h1.push { cls := .type "list", data := .seq ([] : List Value).toArray }) :=
    S1.shut Wo kp2 hYsub fun b hb => hb.imp id fun q => by subst q; exact ⟨nl, _, Heap.get?_push_size _ rfl⟩
  have hafd : a ≠ W.fd := fun q => J.z (q ▸ hZf)
  have hD2 : (h1.push { cls := .type "list", data := .seq ([] : List Value).toArray }).DictOf (intKey W) a kvs := Heap.DictOf.at' hD fun o e => kp2 a o (g1 a o hafd e)
  have hG2 : GL (fun b => X b ∨ b = h1.objs.size) (h1.push { cls := .type "list", data := .seq ([] : List Value).toArray }) m kvs g as :=
    hG.map (Nat.le_refl _) hYsub (fun b o hb e => ⟨fun q => q.elim hb fun q => (by rw [q, nl0] at e; cases e), kp2 b o (g1 b o (fun q => hb (q ▸ S.x.fd)) e)⟩) fun b hb o e => kp2 b o (g1 b o (fun q => (hs b hb).1 (q ▸ hZf)) e)
  have nas : h1.objs.size ∉ as := fun q => by
    obtain ⟨_, e⟩ := hG.live _ q
    rw [nl0] at e; cases e
  have nz : ¬ Z h1.objs.size := fun q => by
    obtain ⟨o, e⟩ := S.x.at_ _ (hZ _ q)
    rw [nl0] at e; cases e
  have hne : h1.objs.size ≠ a := fun q => by
    obtain ⟨o, e⟩ := S.x.at_ a J.x
    rw [← q, nl0] at e; cases e
  have r1' : Rep X h1 ui (.int i0) := r1
  have hkn : (kvs.map (·.1)).Nodup := let ⟨_, _, _, _, _, _, _, _, hn⟩ := hD; hn
  -- what follows the setdefault, whichever list it gave
  have rest : ∀ (l : Addr) (h3 : Heap) (tk3 : Nat) (kvs' : List (Int × Value)) (g' : List (Int × List D)) (as' : List Addr), (∀ b o, b ≠ a → (h1.push { cls := .type "list", data := .seq ([] : List Value).toArray }).get? b = some o → h3.get? b = some o) →
      h3.DictOf (intKey W) a kvs' → GL (fun b => X b ∨ b = h1.objs.size) h3 m kvs' g' as' → kvs'.length ≤ m + 1 → (∀ b ∈ as', ¬ Z b ∧ b ≠ a) → valueAt kvs' i0 = some (.ref l) → g' = (if g.any (fun p => p.1 == i0) then g else g ++ [(i0, [])]) →
      wpAny (model W.prog W.w) A (getMethod (.ref l) ("append" : Str) (do return (← importBound (.Call (.Attribute (.Name ("begun" : Str) p4) ("setdefault" : Str) q1) [.Subscript (.Name ("late" : Str) p5) (.Constant (.int 0) k0 p6) p7, .List [] p8] [] p1) env).getD true))
        (fun fx s₂ => wpAny (model W.prog W.w) A (callWith p2 fx.1 fx.2 (backTo p2 (starEach [.Subscript (.Name ("late" : Str) p9) (.Slice (some (.Constant (.int 1) k1 p10)) none none p11) p12] env)) (backToKw p2 (keywordEach [] env)))
          (fun v s' => match v with | .ref _ => False | _ => Q .next s') E s₂) E { s with heap := h3, toks := tk3 } := by
    intro l h3 tk3 kvs' g' as' k3 hD3 hG3 hl3 hs3 hv3 hg3
    obtain ⟨l', vs, e, hla, hXl, hpl, hsz, _⟩ := hG3.get hv3
    cases e
    obtain ⟨hz3, hl3a⟩ := hs3 l hla
    obtain ⟨nn, hpo⟩ := id hpl
    refine getMethod_list_append (s := { s with heap := h3, toks := tk3 }) hpo rfl rfl ?_
    have S3 : St W (fun b => X b ∨ b = h1.objs.size) nm env ρ σ h3 := S2.turn (N := fun b => b = a) Wo (fun b o q e => k3 b o q e) (fun b q => by
      subst q
      obtain ⟨o, _, _, e, _⟩ := hD3
      exact ⟨o, e⟩) (fun b q => .inl (q ▸ J.x)) hafd.symm (fun b hb q => J.z (q ▸ hZo b hb))
    have hev1 : ev T G 10 nm (.Subscript (.Name ("late" : Str) p9) (.Slice (some (.Constant (.int 1) k1 p10)) none none p11) p12) ρ σ = some (.d (.tup rest), σ) := by
      have hcut : cut (.int i0 :: rest) (some 1) none = rest := by simp [cut, clampTo]
      exact bto (show ev T G 9 nm (.Name ("late" : Str) p9) ρ σ = some (.d (.tup (.int i0 :: rest)), σ) from bto hl (bto hlr rfl)) (congrArg (fun l => some (V.d (.tup l), σ)) hcut)
    have hst : starEach [.Subscript (.Name ("late" : Str) p9) (.Slice (some (.Constant (.int 1) k1 p10)) none none p11) p12] env = [(false, eval (.Subscript (.Name ("late" : Str) p9) (.Slice (some (.Constant (.int 1) k1 p10)) none none p11) p12) env)] := rfl
    refine Calls.callWith_builtin (by rfl) ?_
    rw [hst]
    refine evalArgs_plain (Calls.spliced_cons (I9.ev nm _ ρ σ _ _ hev1 env A _ E _ _ O R S3 fun ux h4 tk4 g4 i4 r4 => Calls.spliced_nil ?_))
    have S4 := S3.gr O g4 i4
    have hlfd : l ≠ W.fd := fun q => hz3 (q ▸ hZf)
    have hpl4 : h4.PlainList l vs := hpl.at fun o e => g4 l o hlfd e
    show wpAny _ _ (call (.builtin "list.append") [.ref l, ux]) _ _ _
    refine wpAny_list_append_plain (s := { s with heap := h4, toks := tk4 }) hpl4 (fun h5 hp5 hs5 => ?_) (by rw [sizeLine_eq]; unfold LIM at hm; omega)
    show Q .next _
    have hD4 : h4.DictOf (intKey W) a kvs' := Heap.DictOf.at' hD3 fun o e => g4 a o hafd e
    have hG4 : GL (fun b => X b ∨ b = h1.objs.size) h4 m kvs' g' as' := hG3.map (Nat.le_refl _) (fun _ q => q) (fun b o hb e => ⟨hb, g4 b o (fun q => hb (q ▸ S3.x.fd)) e⟩) fun b hb o e => g4 b o (fun q => (hs3 b hb).1 (q ▸ hZf)) e
    have hD5 : h5.DictOf (intKey W) a kvs' := Heap.DictOf.at' hD4 fun o e => (hs5.2 a hl3a.symm).trans e
    have hkn' : (kvs'.map (·.1)).Nodup := let ⟨_, _, _, _, _, _, _, _, hn⟩ := hD3; hn
    have r4' : Rep (fun b => X b ∨ b = h1.objs.size) h4 ux (.tup rest) := r4
    have r5 : Rep (fun b => X b ∨ b = h1.objs.size) h5 ux (.tup rest) := r4'.map fun b o hb e => ⟨hb, (hs5.2 b fun q => hb (q ▸ hXl)).trans e⟩
    have hG5 := hG4.put hkn' hv3 hpl4 hs5 hp5 r5
    have S5 := S4.but Wo hs5 (let ⟨_, e⟩ := hp5; ⟨_, e⟩) (fun b hb q => hz3 (q ▸ hZo b hb)) hXl hlfd
    have k5 : ∀ b o, b ≠ W.fd → (¬ X b ∨ Z b) → s.heap.get? b = some o → h5.get? b = some o := fun b o q1 q2 e => by
      have hba : b ≠ a := fun q => q2.elim (fun z => z (q ▸ J.x)) fun z => J.z (q ▸ z)
      have hbl : b ≠ l := fun q => q2.elim (fun z => hXl.elim (fun y => z (q ▸ y)) fun y => by rw [q, y, nl0] at e; cases e) fun z => hz3 (q ▸ z)
      exact (hs5.2 b hbl).trans (g4 b o q1 (k3 b o hba (kp2 b o (g1 b o q1 e))))
    refine h h5 tk4 (fun b => X b ∨ b = h1.objs.size) hYsub (fun b hb => hb.elim Or.inl fun (q : b = h1.objs.size) => Or.inr ⟨by rw [q]; exact nl0, ?_⟩) k5 S5 ⟨⟨kvs', as', hD5, ?_, hl3, hs3⟩, .inl J.x, J.z, J.sys⟩
    · obtain ⟨o, e⟩ := S5.x.at_ b (.inr q)
      exact ⟨o, e⟩
    · rw [addG_eq, ← hg3]
      exact hG5
  cases r1' with
  | int _ t =>
    refine ⟨hD2.typeIs (s := { s with heap := _, toks := _ }), PySem.F.args_dict_setdefault_3 _ _ _, _, kt_meets_setdefault (intKey W) a (k := i0) (by simp [PySem.intKind, Value.isInt]) J.sys _, kvs, hD2, by rw [sizeLine_eq]; unfold LIM at hm; omega, fun v hv => ?_, fun hv h3 hD3 hs3 => ?_⟩
    · obtain ⟨l, vs, rfl, hla, hXl, hpl, hsz, hany⟩ := hG2.get hv
      exact rest l _ _ kvs g as (fun b o _ e => e) hD2 hG2 (Nat.le_succ_of_le hkl) hs hv (by rw [if_pos hany])
    · have hany := hG2.miss hv
      have hst : stored kvs i0 (.ref h1.objs.size) = kvs ++ [(i0, .ref h1.objs.size)] := by
        unfold stored
        rw [if_neg]
        intro q
        rw [List.any_eq_true] at q
        obtain ⟨y, hy, e⟩ := q
        unfold valueAt at hv
        rw [Option.map_eq_none_iff, List.find?_eq_none] at hv
        exact hv y hy e
      rw [hst] at hD3
      have hG3 : GL (fun b => X b ∨ b = h1.objs.size) h3 m kvs g as := hG2.map (Nat.le_refl _) (fun _ q => q) (fun b o hb e => ⟨hb, (hs3.2 b fun q => hb (.inl (q ▸ J.x))).trans e⟩) fun b hb o e => (hs3.2 b (hs b hb).2).trans e
      have hp3 : h3.PlainList h1.objs.size #[] := hplain.at fun o e => (hs3.2 _ hne).trans e
      refine rest h1.objs.size h3 _ _ (g ++ [(i0, [])]) (as ++ [h1.objs.size]) (fun b o q e => (hs3.2 b q).trans e) hD3 (hG3.add (.inr rfl) hp3 nas) (by simp; omega) (fun b hb => ?_) ?_ (by rw [if_neg (by simp [hany])])
      · rcases List.mem_append.mp hb with hb | hb
        · exact hs b hb
        · rw [List.mem_singleton] at hb
          subst hb
          exact ⟨nz, hne⟩
      · unfold valueAt at hv ⊢
        rw [List.find?_append]
        rw [Option.map_eq_none_iff] at hv
        rw [hv]
        simp
end
end Mine

end

section
open PySem PySem.W PySem.Calls PyProof.Rows PySem.Spec
namespace Mine

noncomputable def JoinBody (df : Def) : Prop := ∃ pb pd p0 pl pt p4' p1 p2 p3 p4 p5 p6 p7 p8 p9 p10 p11 p12 q1 q2 : Pos, ∃ k0 k1 : Nat, (q1.endLine == p1.line) = true ∧ (q2.endLine == p2.line) = true ∧
  df.body = .Assign [.Name ("begun" : Str) pb] (.Dict [] [] pd) p0 :: .For (.Name ("late" : Str) pl) (.Name ("t" : Str) pt) [.Expr (.Call (.Attribute (.Call (.Attribute (.Name ("begun" : Str) p4) ("setdefault" : Str) q1) [.Subscript (.Name ("late" : Str) p5) (.Constant (.int 0) k0 p6) p7, .List [] p8] [] p1) ("append" : Str) q2)
      [.Subscript (.Name ("late" : Str) p9) (.Slice (some (.Constant (.int 1) k1 p10)) none none p11) p12] [] p2) p3] [] p4' :: df.body.drop 2

section
variable {W : Wd} {T : Tab} {G : Str → Option V} {k n : Nat} {X Z : Addr → Prop} {nm : Names} {env : Env} {ρ : Rho} {σ σ' : Nat} {A : Around} {E : Value → Shared → Prop} {s : Shared}

theorem St.retype {h : Heap} {x : Str} {a : Addr} {v : V} (S : St W X nm env ((x, .at a) :: ρ) σ h) (r : RepV W X h (.ref a) v) : St W X nm env ((x, v) :: ρ) σ h := by
  have key : ∀ y w, ((x, v) :: ρ).lookup y = some w → ∃ w', ((x, V.at a) :: ρ).lookup y = some w' ∧ ∀ u, RepV W X h u w' → RepV W X h u w := fun y w hy => by
    rw [List.lookup_cons] at hy
    split at hy
    · rename_i e
      cases hy
      refine ⟨.at a, by rw [List.lookup_cons, e], fun u hu => ?_⟩
      have e' : u = .ref a := hu
      rw [e']; exact r
    · rename_i e
      exact ⟨w, by rw [List.lookup_cons, e]; exact hy, fun _ z => z⟩
  refine ⟨S.x, S.i, ?_, fun y hy => ?_, S.l.own⟩
  · obtain ⟨m, hn, hm⟩ := S.l.ns
    refine ⟨m, hn, fun y w hy hl => ?_⟩
    obtain ⟨w', h1, h2⟩ := key y w hy
    obtain ⟨u, e, r⟩ := hm y w' h1 hl
    exact ⟨u, e, h2 u r⟩
  · obtain ⟨c, w, h1, h2, h3⟩ := S.l.cell y hy
    refine ⟨c, w, h1, h2, fun v' hv' => ?_⟩
    obtain ⟨w', h4, h5⟩ := key y v' hv'
    obtain ⟨u, e, r⟩ := h3 w' h4
    exact ⟨u, e, h5 u r⟩

theorem group_cons {d : D} {ds : List D} {g g' : List (Int × List D)} (h : groupFrom (d :: ds) g = some g') : ∃ i rest, d = .tup (.int i :: rest) ∧ groupFrom ds (addG g i (.tup rest)) = some g' := by
  exact bindK h fun l h1 h => bindK h fun p h2 h => bindK h fun i h3 h => ⟨i, p.2, by rw [tupD_inv h1, cons_inv h2, intD_inv h3], h⟩

/-- what holds at each turn of join's loop -/
inductive JInv (W : Wd) (Y0 Z : Addr → Prop) (a : Addr) (nm : Names) (env : Env) (ρ : Rho) (σ : Nat) (tD : List D) (g : List (Int × List D)) (Stt : Nat → Heap → Prop) (h3 : Heap) (N : Addr → Prop) (s : Shared) (m : Nat) (s' : Shared) : Prop
  | mk (i : Nat) (h : Heap) (tk : Nat) (gi : List (Int × List D)) (Xi : Addr → Prop) (hm : m = tD.length - i) (hi : i ≤ tD.length) (hs : s' = { s with heap := h, toks := tk }) (hg : groupFrom (tD.drop i) gi = some g) (st : Stt i h) (hXi : ∀ b, Y0 b → Xi b) (hXb : ∀ b, Xi b → Y0 b ∨ h3.get? b = none)
    (S : St W Xi nm env ρ σ h) (J : JS W Xi Z a i h gi) (kp : ∀ b o, b ≠ W.fd → ¬ Mod nm env b → b ≠ a → ¬ N b → h3.get? b = some o → h.get? b = some o) : JInv W Y0 Z a nm env ρ σ tD g Stt h3 N s m s'

theorem join_run (Wo : WdOk W) (Go : GOK W G) (TO : TabOK W k T) (EO : EvOK W) {df : Def} {fuel : Nat} {sD tD : List D} {g : List (Int × List D)} {v : V} (hb : JoinBody df) (hp : df.params = [("s" : Str), ("t" : Str)]) (hnb : df.names.lookup ("begun" : Str) = some .cell) (hnl : df.names.lookup ("late" : Str) = some .local)
    (hnt : df.names.lookup ("t" : Str) = some .local) (hg : groupFrom tD [] = some g) (h : exs T G fuel df.names (df.body.drop 2) ((("begun" : Str), .grp g) :: df.params.zip [.d (.tup sD), .d (.tup tD)]) σ = some (.ret v, σ')) : Runs W k df [.d (.tup sD), .d (.tup tD)] σ v σ' := by
  intro env A X E s Q O R S P
  obtain ⟨pb, pd, p0, pl, pt, p4', p1, p2, p3, p4, p5, p6, p7, p8, p9, p10, p11, p12, q1, q2, k0, k1, hq1, hq2, hbody⟩ := hb
  have I9 := all_sound Wo Go TO EO 10
  rw [hp] at S h
  have hlim : tD.length < LIM := by
    obtain ⟨m, hn, hm⟩ := S.l.ns
    obtain ⟨u, _, r⟩ := hm ("t" : Str) (.d (.tup tD)) (by rfl) hnt
    have r' : Rep X s.heap u (.tup tD) := r
    cases r' with
    | tup _ _ _ _ _ hl => exact hl
  rw [hbody]
  -- begun = {}
  refine wpAny_execs_cons (wpAny_Assign_Name (wpAny_Dict_empty ?_) (by rfl))
  have kp1 := push_keeps s.heap { cls := .type "dict", data := .dict #[] }
  have nD : s.heap.get? s.heap.objs.size = none := get_end _ (Nat.le_refl _)
  have hD0 : (s.heap.push { cls := .type "dict", data := .dict #[] }).DictOf (intKey W) s.heap.objs.size [] := Heap.DictOf.new _
  have S1 : St W (fun b => X b ∨ b = s.heap.objs.size) df.names env _ σ (s.heap.push { cls := .type "dict", data := .dict #[] }) :=
    S.shut Wo kp1 (fun b => .inl) fun b hb => hb.elim Or.inl fun q => Or.inr (by subst q; exact ⟨nD, _, Heap.get?_push_size _ rfl⟩)
  have noD : ¬ X s.heap.objs.size := fun q => by
    obtain ⟨o, e⟩ := S.x.at_ _ q
    rw [nD] at e; cases e
  refine store_ok (s := { s with heap := _ }) (v := .at s.heap.objs.size) O Wo S1 (.inr hnb) rfl fun h2 tk2 k2 S2 => ?_
  have hD2 : h2.DictOf (intKey W) s.heap.objs.size [] := Heap.DictOf.at' hD0 fun o e => k2 _ o (fun q => noD (S.l.own _ q.own)) e
  have hsys : (s.heap.objs.size == sysModules) = false := by
    obtain ⟨a9, o, hlt, e⟩ := Wo.sys
    have := Nat.lt_trans hlt (Heap.lt_size (S.i.base _ _ e))
    exact beq_eq_false_iff_ne.mpr (fun q => Nat.lt_irrefl _ (q ▸ this))
  -- for late in t
  refine wpAny_execs_cons (wpAny_For ?_ (fun _ => rfl))
  have hevI : evI T G 10 df.names (.Name ("late" : Str) pl) (.Name ("t" : Str) pt) (setName ((([("s" : Str), ("t" : Str)] : List Str)).zip [V.d (.tup sD), .d (.tup tD)]) ("begun" : Str) (.at s.heap.objs.size)) σ = some (tD, σ) := by
    have e1 : (setName ((([("s" : Str), ("t" : Str)] : List Str)).zip [V.d (.tup sD), .d (.tup tD)]) ("begun" : Str) (.at s.heap.objs.size)).lookup ("t" : Str) = some (.d (.tup tD)) := rfl
    exact bto (show ev T G 9 df.names (.Name ("t" : Str) pt) _ σ = some (.d (.tup tD), σ) from bto hnt (bto (f := fun v => some (v, σ)) e1 rfl)) rfl
  refine I9.evI df.names _ _ _ σ _ _ hevI env A _ E { s with heap := h2, toks := tk2 } _ O R S2 fun I N h3 tk3 fM fN g3 i3 => ?_
  have xat : ∀ b, X b → ∃ o, s.heap.get? b = some o := S.x.at_
  have back : ∀ {b : Addr}, h2.get? b = none → s.heap.get? b = none := fun {b} q => by
    cases e : s.heap.get? b with
    | none => rfl
    | some o =>
      exfalso
      by_cases z : Mod df.names env b
      · obtain ⟨o', e'⟩ := S2.x.at_ b (.inl (S.l.own b z.own))
        rw [q] at e'; cases e'
      · rw [k2 b o z (kp1 b o e)] at q; cases q
  have nN : ∀ b, N b → ¬ X b ∧ b ≠ s.heap.objs.size := fun b hb => by
    have e := (fN b hb).1
    refine ⟨fun q => ?_, fun q => ?_⟩
    · obtain ⟨o, e'⟩ := S2.x.at_ b (.inl q)
      rw [e] at e'; cases e'
    · obtain ⟨o, e'⟩ := S2.x.at_ b (.inr q)
      rw [e] at e'; cases e'
  obtain ⟨Stt, Md, M, st⟩ := fM (fun b => (X b ∨ b = s.heap.objs.size) ∨ N b ∨ h3.get? b = none) (fun b hb => hb.elim .inl fun q => .inr (.inl q)) (fun b hb => hb)
  have hXifd : X W.fd := S.x.fd
  have S3 : St W (fun b => (X b ∨ b = s.heap.objs.size) ∨ N b) df.names env _ σ h3 := S2.grow O g3 i3 (fun b => .inl) fun b hb => hb.imp id fun q => fN b q
  have hafd : s.heap.objs.size ≠ W.fd := fun q => noD (q ▸ hXifd)
  have hD3 : h3.DictOf (intKey W) s.heap.objs.size [] := Heap.DictOf.at' hD2 fun o e => g3 _ o hafd e
  have J3 : JS W (fun b => (X b ∨ b = s.heap.objs.size) ∨ N b) (fun b => X b ∨ N b) s.heap.objs.size 0 h3 [] :=
    ⟨⟨[], [], hD3, .nil, Nat.le_refl _, fun b hb => by simp at hb⟩, .inl (.inr rfl), fun q => q.elim noD fun q => (nN _ q).2 rfl, hsys⟩
  refine codeAny_forLoop_any (JInv W (fun b => (X b ∨ b = s.heap.objs.size) ∨ N b) (fun b => X b ∨ N b) s.heap.objs.size df.names env (setName ((([("s" : Str), ("t" : Str)] : List Str)).zip [V.d (.tup sD), .d (.tup tD)]) ("begun" : Str) (.at s.heap.objs.size)) σ tD g Stt h3 N s) ?_ tD.length (.mk 0 h3 tk3 [] _ rfl (Nat.zero_le _) rfl hg st (fun b q => q) (fun b hb => .inl hb) S3 J3 fun _ _ _ _ _ _ e => e)
  rintro mm s' ⟨i, h4, tk4, gi, Xi, rfl, hi, rfl, hgi, st4, hXi, hXb', S4, J4, k4⟩
  have hXb : ∀ b, Xi b → (X b ∨ b = s.heap.objs.size) ∨ N b ∨ h3.get? b = none := fun b hb => (hXb' b hb).elim (fun q => q.elim .inl fun q => .inr (.inl q)) fun q => .inr (.inr q)
  have hNXi : ∀ b, N b → Xi b := fun b q => hXi b (.inr q)
  have hNfd : ¬ N W.fd := fun q => (nN _ q).1 hXifd
  have hNo : ∀ b, Own env b → ¬ N b := fun b hb q => (nN b q).1 (S.l.own b hb)
  have hZX : ∀ b, (X b ∨ N b) → Xi b := fun b hb => hXi b (hb.imp .inl id)
  rcases Nat.lt_or_ge i tD.length with hlt | hge
  · have hd : tD[i]? = some tD[i] := List.getElem?_eq_getElem hlt
    rw [List.drop_eq_getElem_cons hlt] at hgi
    generalize tD[i] = d0 at hd hgi
    obtain ⟨i0, rest, rfl, hgi'⟩ := group_cons hgi
    refine M.item i { s with heap := h4, toks := tk4 } _ _ hlt st4 fun v5 h5 tk5 md5 k5 => ?_
    refine M.go i v5 _ { s with heap := h5, toks := tk5 } _ _ hd (fun es k9 p9 e9 => by cases e9) md5 fun h6 st6 ia6 k6 => ?_
    have k56 : ∀ b o, ¬ N b → h4.get? b = some o → h6.get? b = some o := fun b o q e => k6 b o q (k5 b o q e)
    have S6 := S4.turn Wo k56 (M.live _ _ st6) hNXi hNfd hNo
    have J6 : JS W Xi (fun b => X b ∨ N b) s.heap.objs.size i h6 gi := J4.map hZX fun b o q e => k56 b o (fun z => q (.inr z)) e
    have ia6' : ItemAt Xi (.Name ("late" : Str) pl) h6 v5 (.tup (.int i0 :: rest)) := Rep.wide (fun b hb => by
      rcases hXb b hb with q | q | q
      · exact .inl q
      · exact .inr (.inl q)
      · exact .inr (.inr q)) ia6
    have hbind : bindT df.names (.Name ("late" : Str) pl) (.tup (.int i0 :: rest)) (setName ((([("s" : Str), ("t" : Str)] : List Str)).zip [V.d (.tup sD), .d (.tup tD)]) ("begun" : Str) (.at s.heap.objs.size)) = some (setName (setName ((([("s" : Str), ("t" : Str)] : List Str)).zip [V.d (.tup sD), .d (.tup tD)]) ("begun" : Str) (.at s.heap.objs.size)) ("late" : Str) (.d (.tup (.int i0 :: rest)))) := by
      exact ct (c := stor df.names ("late" : Str)) (by unfold stor; rw [hnl]; rfl) rfl
    refine assign_ok O Wo R.1 hbind (s := { s with heap := h6, toks := tk5 }) S6 ia6' fun h7 tk7 k7 S7 => ?_
    have J7 : JS W Xi (fun b => X b ∨ N b) s.heap.objs.size i h7 gi := J6.map hZX fun b o q e => k7 b o (fun z => q (.inl (S.l.own b z.own))) e
    refine wpAny_execs_cons (join_expr (Z := fun b => X b ∨ N b) (s := { s with heap := h7, toks := tk7 }) Wo I9 hq1 hq2 O R S7 hnb (by rfl) hnl (by rfl) J7 (by omega) hZX (fun b hb => .inl (S.l.own b hb)) (.inl hXifd) fun h8 tk8 Y hXY hYX k8 S8 J8 => wpAny_execs_nil ?_)
    have fr : ∀ {j h h'}, Stt j h → (∀ b o, b ≠ W.fd → (¬ Xi b ∨ (X b ∨ N b)) → ¬ Mod df.names env b → h.get? b = some o → h'.get? b = some o) → Stt j h' := fun {j h h'} st kk => M.frame _ _ _ st fun b o hb e => by
      have hnY : N b ∨ ¬ Xi b := hb.imp id fun q z => q (by
        rcases hXb b z with y | y | y
        · exact .inl y
        · exact .inr (.inl y)
        · exact .inr (.inr y))
      refine kk b o (fun q => ?_) (hnY.elim (fun q => .inr (.inr q)) .inl) (fun q => ?_) e
      · subst q
        exact hnY.elim hNfd fun z => z (hXi _ (.inl (.inl hXifd)))
      · exact hnY.elim (fun z => hNo b q.own z) fun z => z (hXi b (.inl (.inl (S.l.own b q.own))))
    have st7 := fr st6 fun b o _ _ q e => k7 b o q e
    have st8 := fr st7 fun b o q1 q2 _ e => k8 b o q1 q2 e
    have h3live : ∀ b, Y b → (X b ∨ b = s.heap.objs.size) ∨ N b ∨ h3.get? b = none := fun b hb => by
      rcases hYX b hb with q | ⟨q, _⟩
      · exact hXb b q
      · by_cases z1 : N b
        · exact .inr (.inl z1)
        · cases e3 : h3.get? b with
          | none => exact .inr (.inr rfl)
          | some o3 =>
            exfalso
            by_cases z2 : Xi b
            · obtain ⟨o, e⟩ := S7.x.at_ b z2
              rw [q] at e; cases e
            · have z3 : b ≠ W.fd := fun y => z2 (y ▸ hXi _ (.inl (.inl hXifd)))
              have z4 : ¬ Mod df.names env b := fun y => z2 (hXi b (.inl (.inl (S.l.own b y.own))))
              have z5 : b ≠ s.heap.objs.size := fun y => z2 (hXi b (.inl (.inr y)))
              have := k7 b _ z4 (k56 b _ z1 (k4 b o3 z3 z4 z5 z1 e3))
              rw [q] at this; cases this
    refine ⟨tD.length - (i + 1), Nat.sub_lt_sub_left hlt (Nat.lt_succ_self i), .mk (i + 1) h8 tk8 _ Y rfl hlt rfl hgi' st8 (fun b q => hXY b (hXi b q)) (fun b q => (h3live b q).elim (fun z => .inl (.inl z)) fun z => z.elim (fun z => .inl (.inr z)) .inr) (S8.fewer fun y w hy => ?_) J8 fun b o z1 z2 z3 z4 e => ?_⟩
    · rw [lookup_set]
      split
      · rename_i ey
        subst ey
        have : (setName ((([("s" : Str), ("t" : Str)] : List Str)).zip [V.d (.tup sD), .d (.tup tD)]) ("begun" : Str) (.at s.heap.objs.size)).lookup ("late" : Str) = none := rfl
        rw [this] at hy; cases hy
      · exact hy
    · have e7 := k7 b o z2 (k56 b o z4 (k4 b o z1 z2 z3 z4 e))
      by_cases y : Xi b
      · by_cases y2 : X b
        · exact k8 b o z1 (.inr (.inl y2)) e7
        · exfalso
          rcases hXb b y with q | q | q
          · exact q.elim y2 z3
          · exact z4 q
          · rw [q] at e; cases e
      · exact k8 b o z1 (.inl y) e7
  · have hie : i = tD.length := Nat.le_antisymm hi hge
    subst hie
    rw [List.drop_length] at hgi
    have hgg : gi = g := Option.some.inj hgi
    subst hgg
    refine M.done { s with heap := h4, toks := tk4 } _ _ st4 fun h5 tk5 k5 => wpAny_execs_nil ?_
    have S5 : St W X df.names env _ σ h5 := S4.leave Wo k5 hNXi (fun b q => hXi b (.inl (.inl q))) (fun b q z => (nN b z).1 q) hXifd S.l.own
    have J5 : JS W Xi (fun b => X b ∨ N b) s.heap.objs.size tD.length h5 gi := J4.map hZX fun b o q e => k5 b o (fun z => q (.inr z)) e
    obtain ⟨kvs, as, hD5, hG5, _, hs5⟩ := J5.ex
    have rG : RepV W X h5 (.ref s.heap.objs.size) (.grp gi) := ⟨_, kvs, rfl, noD, hsys, hD5, hG5.grp hlim (fun b hb q => (hs5 b hb).1 (.inl q)) fun b q => hXi b (.inl (.inl q))⟩
    have S6 := St.retype S5 rG
    refine (stm_sound Wo Go TO EO fuel).2 df.names (df.body.drop 2) _ σ _ σ' h env A X E { s with heap := h5, toks := tk5 } Q O R S6 ?_
    intro u h6 tk6 k6 i6 r6
    refine P u h6 tk6 (fun b o q1 q2 e => k6 b o q1 q2 (k5 b o (fun z => ?_) (k4 b o q1 q2 (fun z => ?_) (fun z => ?_) (g3 b o q1 (k2 b o q2 (kp1 b o e)))))) i6 r6
    · rw [back (fN b z).1] at e; cases e
    · rw [z, nD] at e; cases e
    · rw [back (fN b z).1] at e; cases e
end
end Mine

end

section
open PySem PySem.W PySem.Calls PyProof.Rows PySem.Spec
namespace Mine

/-- what is asked of the class Evaluator in the world's fragment -/
structure EvFacts (W : Wd) : Prop where
  dict : hasDictIn W.K W.ec = true
  own : ∀ x ∈ (["many", "instance"] : List Str), plainGet W.K W.ec x = true ∧ ∃ attr, findIn W.K (.ref W.ec) x = some attr ∧ noGet W.K attr = true
  meth : ∀ m, meths.contains m = true → plainGet W.K W.ec m = true ∧ ∃ f, W.fv (("Evaluator." : Str) ++ m) = .ref f ∧ findIn W.K (.ref W.ec) m = some (some (.ref f)) ∧ isFn W.K (.ref f) = true ∧ fnIn W.K f = true ∧
    specialIn W.K (.ref f) "__get__" = some (some (.builtin "function.__get__")) ∧ takesIn W.K (.ref f) = some false ∧ copiedNames.contains m = false

section
variable {W : Wd} {X : Addr → Prop} {A : Around} {E : Value → Shared → Prop} {s : Shared}

theorem EvAt.inst {h : Heap} {a : Addr} {n : Int} {rels : List D} (e : EvAt W X h a n rels) : ∃ dx es ep lv t, InstAt h a (instObj W.ec dx) W.ec (some (dictOf es ep)) ∧ getL "many" es = some (some (.int n t)) ∧ getL "instance" es = some (some lv) ∧ (∀ m ∈ (["of_two", "has_many", "truth", "set_of"] : List Str), getL m es = some none) ∧ Rep X h lv (.list rels) := by
  obtain ⟨_, dx, es, ep, lv, t, _, h1, h2, h3, h4, h5, h6⟩ := e
  exact ⟨dx, es, ep, lv, t, ⟨h1, rfl, rfl, h2⟩, h3, h4, h5, h6⟩

theorem ev_ok (Wo : WdOk W) (F : EvFacts W) : EvOK W where
  many := fun A X E s a n rels Q hb he hQ => by
    obtain ⟨dx, es, ep, lv, t, I, h1, h2, h3, h4⟩ := he.inst
    obtain ⟨hp, attr, ha, hn⟩ := F.own ("many" : Str) (by decide)
    exact get_value (Wo.inK.keeps hb) I (plainGet_of hp).1 (findObj_own F.dict ha hn h1) (by rfl) (hQ t _)
  inst := fun A X E s a n rels Q hb he hQ => by
    obtain ⟨dx, es, ep, lv, t, I, h1, h2, h3, h4⟩ := he.inst
    obtain ⟨hp, attr, ha, hn⟩ := F.own ("instance" : Str) (by decide)
    exact get_value (Wo.inK.keeps hb) I (plainGet_of hp).1 (findObj_own F.dict ha hn h2) (by cases h4; rfl) (hQ lv _ h4)
  bound := fun A X E s a n rels m Q hb hm he hQ => by
    obtain ⟨dx, es, ep, lv, t, I, h1, h2, h3, h4⟩ := he.inst
    obtain ⟨hp, f, hf, ha, hfn, _, hgf, ht, hc⟩ := F.meth m hm
    have hl : getL m es = some none := h3 m (by simpa [meths] using hm)
    rw [hf] at hQ
    refine get_bind (Wo.inK.keeps hb) I (plainGet_of hp).1 (findObj_fn F.dict ha hgf ht hc hl) (plainGet_of hp).2
      (wpAny_call (fn_get (s := { s with toks := s.toks + 1 }) (Wo.inK.keeps hb) (beq_iff_eq.mp hfn) (handed_on rfl (hQ _))))
  meth := fun A X E s a n rels m pl Q hb hm he hQ => by
    obtain ⟨dx, es, ep, lv, t, I, h1, h2, h3, h4⟩ := he.inst
    obtain ⟨hp, f, hf, ha, hfn, _, hgf, ht, hc⟩ := F.meth m hm
    have hl : getL m es = some none := h3 m (by simpa [meths] using hm)
    rw [hf] at hQ
    refine method_fn (Wo.inK.keeps hb) I (plainGet_of hp).1 (plainGet_of hp).2 ha (beq_iff_eq.mp hfn) ?_ hQ
    show (lookIn m (dictOf es ep)).map _ = _
    rw [lookIn_dict, hl]; rfl
  cwM := fun A X E s env pos e rest q a m n rels Q hm hb hq he hst hpl h => by
    obtain ⟨hp, f, hf, ha, hfn, hfi, hgf, ht, hc⟩ := F.meth m hm
    rw [hf] at h hq
    rw [hst] at h ⊢
    refine callWith_of (P := MethP W.K q f (.ref a)) (by show ((false || (backTo pos (starEach rest env)).any (·.1)) || false) = false; rw [hpl]; rfl) (keeps_M hfi) (evalArgs_plain (wpAny_mono h (fun vs s₁ h₁ => ⟨⟨h₁.2.1, Wo.inK.keeps h₁.1⟩, ?_⟩) fun _ _ x => x))
    exact wpAny_call (method_call (s := s₁) h₁.2.1 h₁.2.2)
end
end Mine

end

section
open PySem PySem.W PySem.Calls PyProof.Rows PySem.Spec
namespace Mine

section
variable {prog : Program} {w : World} {A : Around} {E : Value → Shared → Prop} {s : Shared} {K : Frag} {x C dx : Addr} {name : Str} {v : Value} {es : List DictEntry} {n : Nat} {R : Result → Shared → Prop}

/-- a store into an instance's own dict: just that dict turns -/
theorem set_field {Q : Unit → Shared → Prop} (X : K.In s.heap) (I : InstAt s.heap x (instObj C dx) C (some (dictOf es n))) (hp : plainOver K C = true) (hs : findIn K (.ref C) "__setattr__" = some (some (.builtin "object.__setattr__"))) (ht : takerIn K C name = some none) (hh : hasDictIn K C = true)
    (hl : (getL name es).isSome = true) (hz : (putL name (PyData.keyHash w.params name) (.str name (s.toks + 1)) v es).length ≤ 1000)
    (h : ∀ h', Heap.SameBut dx s.heap h' → h'.get? dx = some (dictOf (putL name (PyData.keyHash w.params name) (.str name (s.toks + 1)) v es) (putN name es n)) → Q () { s with heap := h', toks := s.toks + 1 + 1 }) :
    wpAny (model prog w) A (setAttr (.ref x) name v) Q E s := by
  refine set_plain X I hs ?_
  refine osa_open (s := { s with toks := s.toks + 1 }) X I hp ht fun b => ?_
  obtain ⟨cd, hc, hd'⟩ := any_some hh
  have e := putName_dict name (PyData.keyHash w.params name) (.str name (s.toks + 1)) v es n
  have D : s.heap.get? dx = some (dictOf es n) := I.dict
  have D' : (s.heap.update dx (Obj.putName name (PyData.keyHash w.params name) (.str name (s.toks + 1)) v)).get? dx = some (dictOf (putL name (PyData.keyHash w.params name) (.str name (s.toks + 1)) v es) (putN name es n)) := by
    have := Heap.get?_update_self (Obj.putName name (PyData.keyHash w.params name) (.str name (s.toks + 1)) v) D (by rw [e]; rfl)
    rw [this, e]
  refine wpAny_bind (wpAny_pure (wpAny_bind (wpAny_bind (wpAny_loadPart (s := { s with toks := s.toks + 1 }) I.at_ (wpAny_bind (Looks.here (s := { s with toks := s.toks + 1 }) (looks_clsIn X hc) ?_))))))
  rw [hd']
  refine wpAny_pure (a := some dx) (wpAny_bind (wpAny_pure (wpAny_bind ?_)))
  unfold nsSet
  refine wpAny_bind (wpAny_bind (wpAny_askSetting (wpAny_pure (wpAny_bind (wpAny_mkText (wpAny_bind (wpAny_loadPart (s := { s with toks := s.toks + 1 + 1 }) D ?_)))))))
  dsimp only
  have c : (!es.toArray.any (·.key.isStr name) && es.toArray.any (·.refKey)) = false := by
    rw [← Array.any_toList, ← Array.any_toList]
    unfold getL at hl
    split at hl
    · rename_i en he
      rw [List.any_eq_true.mpr ⟨en, List.mem_of_find?_eq_some he, List.find?_some he⟩]; rfl
    · split at hl
      · cases hl
      · rename_i z; rw [Bool.not_eq_true] at z
        show (!_ && es.any (·.refKey)) = false
        rw [z, Bool.and_false]
  rw [aRefKeyMayBeTheName_at, c]
  refine wpAny_updatePart (s := { s with toks := s.toks + 1 + 1 }) D ?_
  refine wpAny_bind (wpAny_lookBehind (s := { s with heap := _, toks := s.toks + 1 + 1 }) D' (by exact pastItsLine_dict (by rw [List.size_toArray, sizeLine_eq]; omega)) ?_)
  exact wpAny_pure (h _ (Heap.SameBut.update ..) D')
end
end Mine

end

section
open PySem PySem.W PySem.Calls PyProof.Rows PySem.Spec
namespace Mine

noncomputable def InitBody (df : Def) : Prop := ∃ p1 p2 p3 p4 p5 p6 p7 p8 p9 p10 p11 p12 : Pos, ∃ k1 : Nat, df.body = [.Assign [.Attribute (.Name ("self" : Str) p1) ("many" : Str) p2] (.Name ("many" : Str) p3) p4,
  .Assign [.Attribute (.Name ("self" : Str) p5) ("instance" : Str) p6] (.Name ("instance" : Str) p7) p8, .Assign [.Attribute (.Name ("self" : Str) p9) ("ways" : Str) p10] (.Constant (.int 0) k1 p11) p12]

structure MakeFacts (W : Wd) : Prop where
  makes : makesIn W.K W.ec = true
  over : plainOver W.K W.ec = true
  setter : findIn W.K (.ref W.ec) "__setattr__" = some (some (.builtin "object.__setattr__"))
  taker : ∀ x ∈ (["many", "instance", "ways"] : List Str), takerIn W.K W.ec x = some none
  dict : hasDictIn W.K W.ec = true
  init : ∃ fI df, findIn W.K (.ref W.ec) "__init__" = some (some (.ref fI)) ∧ typeIn W.K (.ref fI) = some (.type "function") ∧ FnOK W (.ref fI) df ∧ defOK df = true ∧ df.params = [("self" : Str), ("many" : Str), ("instance" : Str)] ∧ InitBody df ∧
    df.names.lookup ("self" : Str) = some .local ∧ df.names.lookup ("many" : Str) = some .local ∧ df.names.lookup ("instance" : Str) = some .local

section
variable {W : Wd} {X : Addr → Prop} {σ : Nat} {A : Around} {E : Value → Shared → Prop} {s : Shared}

theorem putL_len {name : Str} {hsh : Int} {key v : Value} : ∀ es : List DictEntry, (putL name hsh key v es).length ≤ es.length + 1
  | [] => Nat.le_refl _
  | e :: es => by
    unfold putL
    split
    · exact Nat.le_succ _
    · exact Nat.succ_le_succ (putL_len es)

theorem make_ok (Wo : WdOk W) (F : MakeFacts W) {n : Int} {rels : List D} {u1 u2 : Value} {Q : Value → Shared → Prop} (R : Room 2 A) (x : XOk W X s.heap) (i : Inv W σ s.heap) (r1 : Rep X s.heap u1 (.int n)) (r2 : Rep X s.heap u2 (.list rels))
    (P : PostV W X σ (.ev n rels) s Q) : wpAny (model W.prog W.w) A (call (.ref W.ec) [u1, u2]) Q E s := by
  obtain ⟨fI, df, hi, hf, hF, hok, hp, hb, hn1, hn2, hn3⟩ := F.init
  obtain ⟨p1, p2, p3, p4, p5, p6, p7, p8, p9, p10, p11, p12, k1, hbody⟩ := hb
  have KX := Wo.inK.keeps i.base
  obtain ⟨hp0, gg, dd, tk, os⟩ := s
  refine wpAny_call (make_core (makes_of KX F.makes) (looks_findIn KX hi) (fun self => bind_fn KX self hf) (.inl rfl) ?_)
  have kp : ∀ b o, hp0.get? b = some o → ((hp0.push emptyDict).push (instObj W.ec hp0.objs.size)).get? b = some o := fun b o e => push_keeps _ _ b o (push_keeps _ _ b o e)
  have hsz : (hp0.push emptyDict).objs.size = hp0.objs.size + 1 := Heap.size_push ..
  have hdx : ((hp0.push emptyDict).push (instObj W.ec hp0.objs.size)).get? hp0.objs.size = some (dictOf [] 0) := push_keeps _ _ _ _ (Heap.get?_push_size _ rfl)
  have hx : ((hp0.push emptyDict).push (instObj W.ec hp0.objs.size)).get? (hp0.objs.size + 1) = some (instObj W.ec hp0.objs.size) := by
    rw [← hsz]; exact Heap.get?_push_size _ rfl
  have nd : hp0.get? hp0.objs.size = none := get_end _ (Nat.le_refl _)
  have nx : hp0.get? (hp0.objs.size + 1) = none := get_end _ (Nat.le_succ _)
  have x1 : XOk W (fun b => X b ∨ b = hp0.objs.size ∨ b = hp0.objs.size + 1) ((hp0.push emptyDict).push (instObj W.ec hp0.objs.size)) := x.shut i kp (fun b => .inl) fun b hb => by
    rcases hb with q | q | q
    · exact .inl q
    · subst q; exact .inr ⟨nd, _, hdx⟩
    · subst q; exact .inr ⟨nx, _, hx⟩
  have i1 : Inv W σ ((hp0.push emptyDict).push (instObj W.ec hp0.objs.size)) := i.keeps Wo kp
  have hm : ∀ b o, ¬ X b → hp0.get? b = some o → ¬ (X b ∨ b = hp0.objs.size ∨ b = hp0.objs.size + 1) ∧ ((hp0.push emptyDict).push (instObj W.ec hp0.objs.size)).get? b = some o := by
    intro b o hb e
    refine ⟨?_, kp b o e⟩
    rintro (q | q | q)
    · exact hb q
    · rw [q, nd] at e; cases e
    · rw [q, nx] at e; cases e
  have Rm : Room 1 (A.under (.builtin "type.__call__" ⟨.ref W.ec :: [u1, u2], []⟩)) := by
    obtain ⟨a, b, c⟩ := R
    refine ⟨a, ?_, ?_⟩
    · show A.depth + 1 + 10 * 1 + 10 ≤ 900
      omega
    · show A.units + 1 + 50 * 1 + 300 ≤ 9000
      omega
  refine fn_open (s := ⟨(hp0.push emptyDict).push (instObj W.ec hp0.objs.size), gg, dd, tk, os⟩) (vs := [.at (hp0.objs.size + 1), .d (.int n), .d (.list rels)]) (us := [.ref (hp0.objs.size + 1), u1, u2]) Wo hF hok (by rw [hp]; rfl) Rm x1 i1
    (.cons rfl (.cons (Rep.map hm r1) (.cons (Rep.map hm r2) .nil))) fun env A' X' E' h₁ tk₁ O Rm' hX hX' kp1 hown S1 => ?_
  rw [hp] at S1
  have hdfd : hp0.objs.size ≠ W.fd := fun q => by
    obtain ⟨o, e⟩ := i.fdat
    rw [← q, nd] at e; cases e
  have hdown : ∀ b, Own env b → b ≠ hp0.objs.size := fun b hb q => by
    have := hown b hb
    rw [q, hdx] at this; cases this
  have KX1 : ∀ {h : Heap} {σ}, Inv W σ h → W.K.In h := fun i => Wo.inK.keeps i.base
  have hX1 : X' hp0.objs.size := hX _ (.inr (.inl rfl))
  rw [hbody]
  -- self.many = many
  refine wpAny_execs_cons (plainObj_wpAny_Assign_Attribute (load_ok O S1 (.inl hn2) (v := .d (.int n)) (by rfl) fun v1 rv1 => load_ok O S1 (.inl hn1) (v := .at (hp0.objs.size + 1)) (by rfl) fun v2 rv2 => ?_) (by rfl))
  have e2 : v2 = .ref (hp0.objs.size + 1) := rv2
  subst e2
  obtain ⟨t1, rfl⟩ : ∃ t, v1 = .int n t := by
    have rv1' : Rep X' h₁ v1 (.int n) := rv1
    cases rv1' with
    | int _ t => exact ⟨t, rfl⟩
  have I1 : InstAt h₁ (hp0.objs.size + 1) (instObj W.ec hp0.objs.size) W.ec (some (dictOf [] 0)) := ⟨kp1 _ _ hx, rfl, rfl, kp1 _ _ hdx⟩
  refine set_field (KX1 S1.i) I1 F.over F.setter (F.taker _ (by simp)) F.dict (by rfl) (by simp [putL]) fun h2 hs2 hd2 => ?_
  have S2 := S1.but Wo hs2 ⟨_, hd2⟩ hdown hX1 hdfd
  -- self.instance = instance
  refine wpAny_execs_cons (plainObj_wpAny_Assign_Attribute (load_ok (s := ⟨h2, gg, dd, _, os⟩) O S2 (.inl hn3) (v := .d (.list rels)) (by rfl) fun v3 rv3 => load_ok (s := ⟨h2, gg, dd, _, os⟩) O S2 (.inl hn1) (v := .at (hp0.objs.size + 1)) (by rfl) fun v4 rv4 => ?_) (by rfl))
  have e4 : v4 = .ref (hp0.objs.size + 1) := rv4
  subst e4
  have hne : hp0.objs.size + 1 ≠ hp0.objs.size := Nat.succ_ne_self _
  have I2 : InstAt h2 (hp0.objs.size + 1) (instObj W.ec hp0.objs.size) W.ec (some (dictOf _ _)) := ⟨(hs2.2 _ hne).trans (kp1 _ _ hx), rfl, rfl, hd2⟩
  refine set_field (s := ⟨h2, gg, dd, _, os⟩) (KX1 S2.i) I2 F.over F.setter (F.taker _ (by simp)) F.dict (by rfl) (Nat.le_trans (putL_len _) (Nat.le_trans (Nat.succ_le_succ (putL_len _)) (by decide))) fun h3 hs3 hd3 => ?_
  have S3 := S2.but Wo hs3 ⟨_, hd3⟩ hdown hX1 hdfd
  -- self.ways = 0
  refine wpAny_execs_cons (plainObj_wpAny_Assign_Attribute (wpAny_Constant_int (load_ok (s := ⟨h3, gg, dd, _, os⟩) O S3 (.inl hn1) (v := .at (hp0.objs.size + 1)) (by rfl) fun v6 rv6 => ?_)) (by rfl))
  have e6 : v6 = .ref (hp0.objs.size + 1) := rv6
  subst e6
  have I3 : InstAt h3 (hp0.objs.size + 1) (instObj W.ec hp0.objs.size) W.ec (some (dictOf _ _)) := ⟨(hs3.2 _ hne).trans ((hs2.2 _ hne).trans (kp1 _ _ hx)), rfl, rfl, hd3⟩
  refine set_field (s := ⟨h3, gg, dd, _, os⟩) (KX1 S3.i) I3 F.over F.setter (F.taker _ (by simp)) F.dict (by rfl) (Nat.le_trans (putL_len _) (Nat.le_trans (Nat.succ_le_succ (putL_len _)) (Nat.le_trans (Nat.succ_le_succ (Nat.succ_le_succ (putL_len _))) (by decide)))) fun h4 hs4 hd4 => ?_
  have S4 := S3.but Wo hs4 ⟨_, hd4⟩ hdown hX1 hdfd
  refine wpAny_execs_nil ⟨rfl, ?_⟩
  have noX : ∀ b, hp0.get? b = none → ¬ X b := fun b e q => by
    obtain ⟨o, e'⟩ := x.at_ b q
    rw [show hp0.get? b = none from e] at e'; cases e'
  have kfin : ∀ b o, hp0.get? b = some o → h4.get? b = some o := fun b o e => by
    have hb : b ≠ hp0.objs.size := fun q => by rw [q, nd] at e; cases e
    exact (hs4.2 b hb).trans ((hs3.2 b hb).trans ((hs2.2 b hb).trans (kp1 b o (kp b o e))))
  refine P (.ref (hp0.objs.size + 1)) h4 _ (Gr.of_keeps kfin) (i.keeps Wo kfin) ⟨_, rfl, noX _ nx, hp0.objs.size, _, _, v3, t1, noX _ nd, (hs4.2 _ hne).trans ((hs3.2 _ hne).trans ((hs2.2 _ hne).trans (kp1 _ _ hx))), hd4, by rfl, by rfl, fun m hm9 => ?_, ?_⟩
  · simp only [List.mem_cons, List.not_mem_nil, or_false] at hm9
    rcases hm9 with rfl | rfl | rfl | rfl <;> rfl
  · have rv3' : Rep X' h2 v3 (.list rels) := rv3
    refine rv3'.map fun b o hb e => ⟨fun q => hb (hX b (.inl q)), ?_⟩
    have hne9 : b ≠ hp0.objs.size := fun q => hb (q ▸ hX1)
    exact (hs4.2 b hne9).trans ((hs3.2 b hne9).trans e)
end
end Mine

namespace Mine
theorem cw_cls {W : Wd} (Wo : WdOk W) (hk : keepIn W.K (.ref W.ec) = true) : CW W (.ref W.ec) := by
  intro A E s env pos e rest first Q hst hpl h
  rw [hst] at h ⊢
  exact callWith_of (P := W.K.In) (by show ((false || (backTo pos (starEach rest env)).any (·.1)) || false) = false; rw [hpl]; rfl) (keeps_K hk) (evalArgs_plain (wpAny_mono h (fun vs s₁ h₁ => ⟨Wo.inK.keeps h₁.1, h₁.2⟩) fun _ _ x => x))
end Mine

end

section
open PySem PySem.W PySem.Calls PyProof.Rows PySem.Spec
namespace Mine

theorem rowHash_key (W : Wd) (r : List Int) : (rowKey W).hash r = rowHash r := rfl

section
variable {W : Wd} {X : Addr → Prop} {A : Around} {E : Value → Shared → Prop} {s : Shared}

theorem class_row : ∀ {vs : List Value} {rs : List Int} {h : Heap}, Reps X h vs (rs.map .int) → ∀ v ∈ vs, ∃ i t, v = Value.int i t := by
  intro vs
  induction vs with
  | nil => intro rs h _ v hv; simp at hv
  | cons v0 vs ih =>
    intro rs h r v hv
    cases rs with
    | nil => cases r
    | cons i rs =>
      cases r with
      | cons h1 r =>
        rcases List.mem_cons.mp hv with rfl | hv
        · cases h1; exact ⟨_, _, rfl⟩
        · exact ih r v hv

theorem not_class {a : Addr} {r : List Int} {Q : Bool → Shared → Prop} (h : Rep X s.heap (.ref a) (rowD r)) (hQ : Q false s) : wpAny (model W.prog W.w) A (ofAClassStatement 8 (.ref a)) Q E s := by
  cases h with
  | @tup _ o vs n _ hx ho hc hd hr hl =>
    have hT : s.TypeIs (.ref a) "tuple" := ⟨o, ho, hc⟩
    unfold ofAClassStatement
    refine wpAny_bind (wpAny_typeOf hT ?_)
    show wpAny _ _ (do
        let underTuple ← (if ("tuple" == "tuple") = true then pure true else isSubtype (.type "tuple") (.type "tuple"))
        if !underTuple then return false
        let some items ← seqItems? (.ref a) | return true
        for y in items do
          if ← ofAClassStatement 7 y then return true
        return false) _ _ _
    rw [if_pos (by decide)]
    refine wpAny_bind (wpAny_pure ?_)
    simp only [Bool.not_true, Bool.false_eq_true, if_false]
    refine wpAny_bind (wpAny_seqItems ho hd ?_)
    refine wpAny_bind ?_
    show wpAny _ _ (forIn vs _ _) _ _ s
    rw [← Array.forIn_toList]
    refine wpAny_forIn_list _ (fun rest q s' => q.1 = none ∧ s' = s ∧ ∀ v ∈ rest, ∃ i t, v = Value.int i t) _ ?_ ?_ _ _ ⟨rfl, rfl, class_row hr⟩
    · rintro v rest q s' ⟨hq, rfl, hall⟩
      obtain ⟨i, t, rfl⟩ := hall v List.mem_cons_self
      refine wpAny_bind (wpAny_pure ?_)
      simp only [Bool.false_eq_true, if_false]
      exact wpAny_pure ⟨rfl, rfl, fun u hu' => hall u (List.mem_cons_of_mem _ hu')⟩
    · rintro ⟨r1, r2⟩ s' ⟨hr', rfl, _⟩
      simp only at hr'
      subst hr'
      exact wpAny_pure hQ

theorem not_seen {a : Addr} {r : List Int} {l : List Value} {Q : Bool → Shared → Prop} (h : Rep X s.heap (.ref a) (rowD r)) (hl : ∀ v ∈ l, ∃ b r', v = .ref b ∧ Rep X s.heap (.ref b) (rowD r')) (hQ : Q false s) :
    wpAny (model W.prog W.w) A (searchCouldBeSeen (.ref a) l) Q E s := by
  unfold searchCouldBeSeen
  refine wpAny_bind ?_
  refine wpAny_forIn_list _ (fun rest q s' => q.1 = none ∧ s' = s ∧ ∀ v ∈ rest, ∃ b r', v = Value.ref b ∧ Rep X s.heap (.ref b) (rowD r')) _ ?_ ?_ _ _ ⟨rfl, rfl, hl⟩
  · rintro v rest q s' ⟨hq, rfl, hall⟩
    obtain ⟨b, r', rfl, hb⟩ := hall v List.mem_cons_self
    have hrest : ∀ u ∈ rest, ∃ b r', u = Value.ref b ∧ Rep X s'.heap (.ref b) (rowD r') := fun u hu => hall u (List.mem_cons_of_mem _ hu)
    refine wpAny_ite_split (fun _ => wpAny_pure ⟨rfl, rfl, hrest⟩) (fun _ => ?_)
    refine wpAny_bind ((rowKey W).quiet (Rep.rowKey h) ?_)
    simp only [Bool.not_true, Bool.false_eq_true, if_false]
    refine wpAny_bind ((rowKey W).quiet (Rep.rowKey hb) ?_)
    simp only [Bool.not_true, Bool.false_eq_true, if_false]
    refine wpAny_bind (not_class h ?_)
    simp only [Bool.false_eq_true, if_false]
    refine wpAny_bind (not_class hb ?_)
    simp only [Bool.false_eq_true, if_false]
    exact wpAny_pure ⟨rfl, rfl, hrest⟩
  · rintro ⟨r1, r2⟩ s' ⟨hr', rfl, _⟩
    simp only at hr'
    subst hr'
    exact wpAny_pure hQ

/-- elements with their rows and addresses -/
abbrev PsA := Array (Int × List Int × Addr)
noncomputable def PsA.es (ps : PsA) : Array (Int × Value) := ps.map fun x => (x.1, Value.ref x.2.2)
noncomputable def PsA.rs (ps : PsA) : Array (Int × List Int) := ps.map fun x => (x.1, x.2.1)

structure SetIs (X : Addr → Prop) (h : Heap) (a : Addr) (ps : PsA) (t : SetTable) : Prop where
  at_ : ∃ o ep, h.get? a = some o ∧ o.cls = .type "set" ∧ o.data = .set ps.es ep t
  fits : t.fits ps.size = true
  plain : t.plain = true
  rep : ∀ x ∈ ps.toList, Rep X h (.ref x.2.2) (rowD x.2.1)

theorem PsA.es_size (ps : PsA) : ps.es.size = ps.size := by simp [PsA.es]
theorem PsA.rs_size (ps : PsA) : ps.rs.size = ps.size := by simp [PsA.rs]
theorem PsA.hash (ps : PsA) (i : Nat) : (ps.es[i]?.map (·.1)).getD 0 = (ps.rs[i]?.map (·.1)).getD 0 := by
  simp only [PsA.es, PsA.rs, Array.getElem?_map]
  cases ps[i]? <;> rfl

theorem SetIs.state {a : Addr} {ps : PsA} {t : SetTable} (S : SetIs X s.heap a ps t) {Q : (Array (Int × Value) × Nat × SetTable) → Shared → Prop} (h : ∀ ep, Q (ps.es, ep, t) s) : wpAny (model W.prog W.w) A (setState a) Q E s := by
  obtain ⟨o, ep, ho, hc, hd⟩ := S.at_
  exact wpAny_setState_of ho hd (by rw [ps.es_size]; exact S.fits) (h ep)

theorem search_ok {a ax : Addr} {ps : PsA} {t : SetTable} {row : List Int} (hu : A.units + 1 < cLine) (S : SetIs X s.heap a ps t) (hx : Rep X s.heap (.ref ax) (rowD row)) (hg : t.gaveWay = false) {r : Option Nat} {Q : SetFound → Shared → Prop}
    (hQ : Q (match r with | none => .there none | some j => .free j false) s) : ∀ (n m : Nat) (stand : Option SetTable.Probe), n ≤ m → searchP t ps.rs (rowHash row) row n stand = some r →
      wpAny (model W.prog W.w) A (setSearchFrom a (.ref ax) (rowHash row) true m stand) Q E s := by
  intro n
  induction n with
  | zero => intro m stand _ h; simp [searchP] at h
  | succ n ih =>
    intro m stand hm h
    obtain ⟨m, rfl⟩ : ∃ k, m = k + 1 := ⟨m - 1, by omega⟩
    refine wpAny_bind (S.state fun ep => ?_)
    dsimp only
    rw [hg]
    simp only [Bool.false_eq_true, if_false]
    have hfun : (fun i : Nat => (ps.es[i]?.map (·.1)).getD 0) = (fun i : Nat => (ps.rs[i]?.map (·.1)).getD 0) := funext ps.hash
    unfold searchP at h
    rw [← hfun] at h
    generalize hpr : t.probe (fun i : Nat => (ps.es[i]?.map (·.1)).getD 0) (rowHash row) (stand.getD (t.probeStart (rowHash row))) = pr at h
    rw (transparency := .default) [hpr]
    match pr, h with
    | some (.empty j none), h =>
      cases h
      exact wpAny_pure hQ
    | some (.candidate j i next), h =>
      dsimp only at h ⊢
      cases hy : ps.rs[i]? with
      | none => rw [hy] at h; cases h
      | some y =>
        rw [hy] at h
        dsimp only at h
        obtain ⟨p, hp, rfl⟩ : ∃ p, ps[i]? = some p ∧ y = (p.1, p.2.1) := by
          simp only [PsA.rs, Array.getElem?_map, Option.map_eq_some_iff] at hy
          obtain ⟨p, hp, e⟩ := hy
          exact ⟨p, hp, e.symm⟩
        have hes : ps.es[i]? = some (p.1, .ref p.2.2) := by simp [PsA.es, Array.getElem?_map, hp]
        have hpm : p ∈ ps.toList := by
          rw [← Array.getElem?_toList] at hp
          exact List.mem_of_getElem? hp
        have hrp := S.rep p hpm
        have next : wpAny (model W.prog W.w) A (do
            let some (_, y) := ps.es[i]? | unsupported "internal:set-entry"
            let equal ← holding [y] (eqBool y (.ref ax))
            let (es', _, t') ← setState a
            if true && equal then return .there none
            let some sm := t'.sameMemory t.moves t.mask | unsupported "set.changed-during-lookup:is-the-new-block-at-the-old-address"
            let still ← match (if sm then t'.slot j else .empty) with
              | .live i' => match es'[i']? with
                | some (_, y') => do pure (if ← isSame y' y then some i' else none)
                | none => pure none
              | _ => pure none
            match still with
            | none => rule "set.search.anew"; setSearchFrom a (.ref ax) (rowHash row) true m none
            | some i' => if equal then return .there (some i') else setSearchFrom a (.ref ax) (rowHash row) true m (some next)) Q E s := by
          rw [hes]
          dsimp only
          refine wpAny_bind (wpAny_holding ((rowKey W).eqBool (by show A.units < cLine; omega) (Rep.rowKey hrp) (Rep.rowKey hx) ?_))
          refine wpAny_bind (S.state fun ep' => ?_)
          dsimp only
          by_cases he : p.2.1 = row
          · rw [if_pos he] at h
            cases h
            rw [if_pos (by simp [he])]
            exact wpAny_pure hQ
          · rw [if_neg he] at h
            split at h
            · rename_i hs
              rw [if_neg (by simp [he])]
              have hsm : t.sameMemory t.moves t.mask = some true := by simp [SetTable.sameMemory]
              rw [hsm]
              dsimp only
              rw [if_pos rfl, hs]
              dsimp only
              rw [hes]
              dsimp only
              refine wpAny_bind (wpAny_isSame_ref_self ?_)
              rw [if_pos rfl]
              refine wpAny_bind (wpAny_pure ?_)
              dsimp only
              rw [if_neg (by simp [he])]
              exact ih m (some _) (by omega) h
            · cases h
        refine wpAny_ite_split (fun _ => ?_) (fun _ => next)
        refine wpAny_bind (not_seen hx (fun v hv => ?_) ?_)
        · obtain ⟨e, he, rfl⟩ := List.mem_map.mp hv
          have he' : e ∈ ps.es.toList := by
            rw [Array.toList_filter] at he
            exact (List.mem_filter.mp he).1
          simp only [PsA.es, Array.toList_map, List.mem_map] at he'
          obtain ⟨q, hq, rfl⟩ := he'
          exact ⟨_, _, rfl, S.rep q hq⟩
        · simp only [Bool.false_eq_true, if_false]
          exact next
    | none, h => cases h
    | some (.empty j (some d)), h => cases h
end
end Mine

end

section
open PySem PySem.W PySem.Calls PyProof.Rows PySem.Spec
namespace Mine

theorem insertAt_map {α β : Type} (f : α → β) (xs : Array α) (p : Nat) (x : α) : (SetTable.insertAt xs p x).map f = SetTable.insertAt (xs.map f) p (f x) := by
  apply Array.toList_inj.mp
  rw [Array.toList_map, SetTable.toList_insertAt, SetTable.toList_insertAt, Array.toList_map]
  simp [List.map_take, List.map_drop]
theorem order_map {α β : Type} (f : α → β) (xs : Array α) (order : Array Nat) : (order.filterMap (xs[·]?)).map f = order.filterMap ((xs.map f)[·]?) := by
  rw [Array.map_filterMap]
  congr 1
  funext i
  rw [Array.getElem?_map]

theorem PsA.insert_es (ps : PsA) (p : Nat) (x : Int × List Int × Addr) : SetTable.insertAt ps.es p (x.1, Value.ref x.2.2) = PsA.es (SetTable.insertAt ps p x) := (insertAt_map (fun x : Int × List Int × Addr => (x.1, Value.ref x.2.2)) ps p x).symm
theorem PsA.insert_rs (ps : PsA) (p : Nat) (x : Int × List Int × Addr) : SetTable.insertAt ps.rs p (x.1, x.2.1) = PsA.rs (SetTable.insertAt ps p x) := (insertAt_map (fun x : Int × List Int × Addr => (x.1, x.2.1)) ps p x).symm
theorem PsA.order_es (ps : PsA) (order : Array Nat) : order.filterMap (ps.es[·]?) = PsA.es (order.filterMap (ps[·]?)) := (order_map (fun x : Int × List Int × Addr => (x.1, Value.ref x.2.2)) ps order).symm
theorem PsA.order_rs (ps : PsA) (order : Array Nat) : order.filterMap (ps.rs[·]?) = PsA.rs (order.filterMap (ps[·]?)) := (order_map (fun x : Int × List Int × Addr => (x.1, x.2.1)) ps order).symm

section
variable {W : Wd} {X : Addr → Prop} {A : Around} {E : Value → Shared → Prop} {s : Shared}

theorem byValue_row {a : Addr} {r : List Int} {Q : Bool → Shared → Prop} (h : Rep X s.heap (.ref a) (rowD r)) (hQ : Q true s) : wpAny (model W.prog W.w) A (hashByValue 8 (.ref a)) Q E s := by
  cases h with
  | @tup _ o vs n _ hx ho hc hd hr hl =>
    have hT : s.TypeIs (.ref a) "tuple" := ⟨o, ho, hc⟩
    unfold hashByValue
    refine wpAny_bind (wpAny_specialOf hT PySem.F.slot_tuple_hash.lookup ?_)
    dsimp only
    refine wpAny_bind (wpAny_seqItems ho hd ?_)
    refine wpAny_bind ?_
    show wpAny _ _ (forIn vs _ _) _ _ s
    rw [← Array.forIn_toList]
    refine wpAny_forIn_list _ (fun rest q s' => q.1 = none ∧ s' = s ∧ ∀ v ∈ rest, ∃ i t, v = Value.int i t) _ ?_ ?_ _ _ ⟨rfl, rfl, class_row hr⟩
    · rintro v rest q s' ⟨hq, rfl, hall⟩
      obtain ⟨i, t, rfl⟩ := hall v List.mem_cons_self
      refine wpAny_bind (wpAny_of_eq (by unfold hashByValue; rfl) ?_)
      simp only [Bool.not_true, Bool.false_eq_true, if_false]
      exact wpAny_pure ⟨rfl, rfl, fun u hu' => hall u (List.mem_cons_of_mem _ hu')⟩
    · rintro ⟨r1, r2⟩ s' ⟨hr', rfl, _⟩
      simp only at hr'
      subst hr'
      exact wpAny_pure hQ

theorem SetIs.store {a : Addr} {ps ps' : PsA} {t t' : SetTable} (S : SetIs X s.heap a ps t) (hX : X a) (hf : t'.fits ps'.size = true) (hp : t'.plain = true) (hr : ∀ x ∈ ps'.toList, Rep X s.heap (.ref x.2.2) (rowD x.2.1)) (hs : ps'.size < 4096) {Q : Unit → Shared → Prop}
    (h : ∀ h', Heap.SameBut a s.heap h' → SetIs X h' a ps' t' → Q () { s with heap := h' }) : wpAny (model W.prog W.w) A (storeSet a ps'.es t') Q E s := by
  obtain ⟨o, ep, ho, hc, hd⟩ := S.at_
  refine wpAny_storeSet_of ho hd (h _ (Heap.SameBut.update ..) ⟨?_, hf, hp, fun x hx => ?_⟩) (by rw [ps'.es_size, sizeLine_eq]; omega)
  · refine ⟨{ o with data := .set ps'.es (ep + 1) t' }, ep + 1, ?_, hc, rfl⟩
    have := Heap.get?_update_self (Obj.putSet ps'.es t') ho (by rw [putSet_of _ t' hd]; rfl)
    rw [putSet_of _ t' hd] at this
    exact this
  · exact (hr x hx).map fun b o hb e => ⟨hb, (Heap.get?_update_other _ _ (fun q => hb (q ▸ hX))).trans e⟩

theorem put_plain (t : SetTable) (j : Nat) : (t.put j).1.plain = t.plain := rfl
theorem put_led (t : SetTable) (j : Nat) : (t.put j).1.led = t.led := rfl
theorem relaid_flags {t t' : SetTable} {hs : Array Int} {n : Nat} {order : Array Nat} (h : t.relaid hs n = some (t', order)) : t'.plain = t.plain ∧ t'.led = t.led := by
  unfold SetTable.relaid SetTable.laid at h
  simp only [Option.bind_eq_bind, Option.bind_eq_some_iff, Option.pure_def, Option.some.injEq, Prod.mk.injEq] at h
  obtain ⟨ow, _, rfl, _⟩ := h
  exact ⟨rfl, rfl⟩

theorem add_ok {a ax : Addr} {ps : PsA} {t : SetTable} {row : List Int} {st : PSet} (hu : A.units + 1 < cLine) (hX : X a) (S : SetIs X s.heap a ps t) (hx : Rep X s.heap (.ref ax) (rowD row)) (hl : ps.size < 4000) (hadd : addP (ps.rs, t) row = some st) {Q : Bool → Shared → Prop}
    (hQ : ∀ (b : Bool) h' tk ps', Heap.SameBut a s.heap h' → SetIs X h' a ps' st.2 → ps'.rs = st.1 → ps'.size ≤ ps.size + 1 → st.2.led = t.led → Q b { s with heap := h', toks := tk }) :
    wpAny (model W.prog W.w) A (setAdd a (.ref ax)) Q E s := by
  unfold setAdd
  refine wpAny_holding (wpAny_bind ((rowKey W).pyHash (by show A.units < cLine; omega) (Rep.rowKey hx) ?_))
  unfold setAddHashed setAddHashedIn
  have S' : SetIs X ({ s with toks := s.toks + (rowKey W).draws row } : Shared).heap a ps t := S
  have hx' : Rep X ({ s with toks := s.toks + (rowKey W).draws row } : Shared).heap (.ref ax) (rowD row) := hx
  refine wpAny_holding (wpAny_bind (S'.state fun ep => ?_))
  dsimp only
  rw [if_neg (by show ¬ (byScan (.ref ax) ps.es = true); rw [show byScan (.ref ax) ps.es = false from rfl]; exact Bool.false_ne_true)]
  unfold addP at hadd
  dsimp only at hadd
  by_cases hg : t.gaveWay = true
  · rw [if_pos hg] at hadd; cases hadd
  rw [if_neg hg] at hadd
  have hg' : t.gaveWay = false := by simpa using hg
  unfold setSearch
  refine wpAny_bind ?_
  cases hs : searchP t ps.rs (rowHash row) row 30 none with
  | none => rw [hs] at hadd; cases hadd
  | some r =>
    rw [hs] at hadd
    refine search_ok hu S' hx' hg' (r := r) ?_ 30 100000 none (by omega) hs
    cases r with
    | none =>
      cases hadd
      dsimp only
      exact wpAny_pure (hQ false s.heap _ ps (Heap.SameBut.refl _ _) S rfl (Nat.le_succ _) rfl)
    | some slot =>
      dsimp only at hadd ⊢
      refine wpAny_bind (S'.state fun ep' => ?_)
      dsimp only
      rw [if_pos (show (t.put slot).1.plain = true from S.plain)]
      refine wpAny_bind (byValue_row hx' ?_)
      rw [if_pos rfl]
      have e1 : SetTable.insertAt ps.es (t.put slot).2 (rowHash row, Value.ref ax) = PsA.es (SetTable.insertAt ps (t.put slot).2 (rowHash row, row, ax)) := ps.insert_es _ (rowHash row, row, ax)
      have e2 : SetTable.insertAt ps.rs (t.put slot).2 (rowHash row, row) = PsA.rs (SetTable.insertAt ps (t.put slot).2 (rowHash row, row, ax)) := ps.insert_rs _ (rowHash row, row, ax)
      have hsz : (SetTable.insertAt ps (t.put slot).2 (rowHash row, row, ax)).size = ps.size + 1 := by
        rw [← Array.length_toList, (SetTable.insertAt_perm _ _ _).length_eq]
        simp
      rw [e2] at hadd
      generalize hps : SetTable.insertAt ps (t.put slot).2 (rowHash row, row, ax) = ps1 at e1 e2 hadd hsz
      have hr1 : ∀ x ∈ ps1.toList, Rep X s.heap (.ref x.2.2) (rowD x.2.1) := fun x hm => by
        rw [← hps] at hm
        have := (SetTable.insertAt_perm _ _ _).mem_iff.mp hm
        rw [Array.toList_push] at this
        rcases List.mem_append.mp this with q | q
        · exact S.rep x q
        · rw [List.mem_singleton.mp q]; exact hx
      rw [PsA.rs_size, PsA.rs_size] at hadd
      by_cases hf : (t.put slot).1.fits ps1.size = true
      · rw [if_neg (by simp [hf])] at hadd
        show wpAny _ _ (storeSet a (SetTable.insertAt ps.es (t.put slot).2 (rowHash row, Value.ref ax)) (t.put slot).1 >>= _) _ _ _
        rw [e1]
        refine wpAny_bind (S'.store hX hf (by rw [put_plain]; exact S.plain) hr1 (by omega) fun h1 hs1 S1 => ?_)
        show wpAny _ _ (if (!false && (t.put slot).1.tooFull) = true then setRelay a (SetTable.grown (ps.es.size + 1)) >>= fun _ => pure true else pure true) _ _ _
        rw [ps.es_size]
        by_cases htf : (t.put slot).1.tooFull = true
        · rw [if_pos htf] at hadd
          rw [if_pos (by rw [htf]; rfl)]
          by_cases hsa : SetTable.sizeAbove (SetTable.grown (ps.size + 1)) > 64
          · rw [if_pos hsa] at hadd; cases hadd
          rw [if_neg hsa] at hadd
          have eh : (PsA.rs ps1).map (·.1) = (PsA.es ps1).map (·.1) := by
            unfold PsA.rs PsA.es
            rw [Array.map_map, Array.map_map]
            rfl
          rw [eh] at hadd
          cases hrl : (t.put slot).1.relaid ((PsA.es ps1).map (·.1)) (SetTable.grown (ps.size + 1)) with
          | none => rw [hrl] at hadd; cases hadd
          | some q =>
            obtain ⟨t2, order⟩ := q
            rw [hrl] at hadd
            dsimp only at hadd
            have e3 : order.filterMap ((PsA.rs ps1)[·]?) = PsA.rs (order.filterMap (ps1[·]?)) := PsA.order_rs ps1 order
            have e4 : order.filterMap ((PsA.es ps1)[·]?) = PsA.es (order.filterMap (ps1[·]?)) := PsA.order_es ps1 order
            rw [e3, PsA.rs_size] at hadd
            have hr2 : ∀ x ∈ (order.filterMap (ps1[·]?)).toList, Rep X h1 (.ref x.2.2) (rowD x.2.1) := fun x hm => by
              rw [Array.toList_filterMap] at hm
              obtain ⟨i, _, hi⟩ := List.mem_filterMap.mp hm
              rw [← Array.getElem?_toList] at hi
              exact S1.rep x (List.mem_of_getElem? hi)
            generalize hp2 : order.filterMap (ps1[·]?) = ps2 at hadd e4 hr2
            split at hadd
            · rename_i hok
              cases hadd
              obtain ⟨hz, hf2⟩ := hok
              unfold setRelay
              refine wpAny_bind (wpAny_bind (S1.state fun ep2 => ?_))
              dsimp only
              rw [if_neg (by rw [sizeLine_eq]; omega)]
              rw [hrl]
              refine wpAny_bind (wpAny_of_eq (a := (PsA.es ps2, t2)) ?_ ?_)
              · show (if ((order.filterMap ((PsA.es ps1)[·]?)).size != (PsA.es ps1).size) = true then _ else pure (order.filterMap ((PsA.es ps1)[·]?), t2)) = _
                rw [e4, if_neg (by rw [PsA.es_size ps2, PsA.es_size ps1, hz]; simp)]
              · dsimp only
                have hfl := relaid_flags hrl
                refine S1.store hX (by rw [hz]; exact hf2) (by rw [hfl.1]; exact S.plain) hr2 (by omega) fun h2 hs2 S2 => wpAny_pure ?_
                exact hQ true h2 _ ps2 (hs1.trans hs2) S2 rfl (by omega) (by rw [hfl.2]; exact put_led _ _)
            · cases hadd
        · rw [if_neg htf] at hadd
          cases hadd
          rw [if_neg (by rw [Bool.not_eq_true] at htf; rw [htf]; exact Bool.false_ne_true)]
          exact wpAny_pure (hQ true h1 _ ps1 hs1 S1 rfl (by omega) (put_led _ _))
      · rw [if_pos (by simpa using hf)] at hadd; cases hadd
end
end Mine

end

section
open PySem PySem.W PySem.Calls PyProof.Rows PySem.Spec
namespace Mine

section
variable {W : Wd} {X : Addr → Prop} {A : Around} {E : Value → Shared → Prop} {s : Shared} {σ : Nat}

theorem set_loop (hh : A.handled = none) (hA : A.units + 96 < cLine) {I ax a : Addr} {items : Array Value} {rs : List (List Int)} {R : Result → Shared → Prop} (hI : X I) (ha : X a) (hax : ¬ X ax) (hIa : I ≠ a) (hlim : rs.length < 4000) :
    ∀ (n i : Nat) (s : Shared) (ps : PsA) (t : SetTable) (st : PSet), items.size - i = n → i ≤ items.size → s.heap.IsListIter I ax i → s.heap.IsList ax items → Reps X s.heap items.toList (rs.map rowD) →
      SetIs X s.heap a ps t → ps.size ≤ i → addsP (rs.drop i) (ps.rs, t) = some st →
      (∀ h' tk ps', (∀ b o, b ≠ I → b ≠ a → s.heap.get? b = some o → h'.get? b = some o) → SetIs X h' a ps' st.2 → ps'.rs = st.1 → st.2.led = t.led → R (.ok (.ret .none)) { s with heap := h', toks := tk }) →
      codeAny (model W.prog W.w) A (.builtin "set.update.loop" ⟨[.ref a, .ref I], []⟩) R s := by
  have w := Walks.list (prog := W.prog) (w := W.w) (A := A.in1) hh I ax (fun q => hax (q ▸ hI)) items
  intro n
  induction n with
  | zero =>
    intro i s ps t st hn hi hit hl hr S hps hok hR
    have hie : i = items.size := by omega
    subst hie
    have hlen : items.size = rs.length := by have := hr.length; simpa using this
    refine codeAny_builtin PyProof.Rows.F.entry_set_update_loop ?_
    rw [Around.under_plainId PyProof.Rows.F.plain_set_update_loop _]
    show wpAny _ A.in1 (pyNext (.ref I) >>= _) _ _ s
    refine wpAny_bind (w.done s _ _ ⟨hit, hl⟩ fun h' tk hk => ?_)
    have k9 : ∀ b o, b ≠ I → s.heap.get? b = some o → h'.get? b = some o := fun b o q e => hk b o (by simpa using q) e
    show wpAny _ A.in1 (ret Value.none) _ _ _
    rw [hlen, List.drop_length] at hok
    cases hok
    refine wpAny_pure (hR h' tk ps (fun b o q _ e => k9 b o q e) ?_ rfl rfl)
    obtain ⟨o, ep, ho, hc, hd⟩ := S.at_
    exact ⟨⟨o, ep, k9 a o hIa.symm ho, hc, hd⟩, S.fits, S.plain, fun x hx => (S.rep x hx).map fun b o hb e => ⟨hb, k9 b o (fun q => hb (q ▸ hI)) e⟩⟩
  | succ n ih =>
    intro i s ps t st hn hi hit hl hr S hps hok hR
    have hlt : i < items.size := by omega
    have hlen : items.size = rs.length := by have := hr.length; simpa using this
    have hdrop : rs.drop i = rs[i] :: rs.drop (i + 1) := List.drop_eq_getElem_cons (by omega)
    generalize hrow : rs[i] = row at hdrop
    refine codeAny_builtin PyProof.Rows.F.entry_set_update_loop ?_
    rw [Around.under_plainId PyProof.Rows.F.plain_set_update_loop _]
    show wpAny _ A.in1 (pyNext (.ref I) >>= _) _ _ s
    refine wpAny_bind (w.item i s _ _ hlt ⟨hit, hl⟩ fun v h1 tk1 hv st1 hk => ?_)
    have k9 : ∀ b o, b ≠ I → s.heap.get? b = some o → h1.get? b = some o := fun b o q e => hk b o (by simpa using q) e
    have km : ∀ b o, ¬ X b → s.heap.get? b = some o → ¬ X b ∧ h1.get? b = some o := fun b o hb e => ⟨hb, k9 b o (fun q => hb (q ▸ hI)) e⟩
    obtain ⟨d, hd, rv⟩ := (hr.map km).get' (i := i) (v := v) (by simpa using hv)
    have hd' : d = rowD row := by
      rw [List.getElem?_map, List.getElem?_eq_getElem (by omega), hrow] at hd
      simpa using hd.symm
    subst hd'
    have S1 : SetIs X h1 a ps t := by
      obtain ⟨o, ep, ho, hc, hd⟩ := S.at_
      exact ⟨⟨o, ep, k9 a o hIa.symm ho, hc, hd⟩, S.fits, S.plain, fun x hx => (S.rep x hx).map km⟩
    rw [hdrop] at hok
    obtain ⟨st2, hadd, hok⟩ := Option.bind_eq_some_iff.mp hok
    obtain ⟨b, rfl⟩ : ∃ b, v = .ref b := by
      cases rv with
      | tup => exact ⟨_, rfl⟩
    show wpAny _ A.in1 (holding [Value.ref b] (setAdd a (.ref b)) >>= _) _ _ _
    refine wpAny_bind (wpAny_holding (add_ok (s := { s with heap := h1, toks := tk1 }) (by show A.units + 1 + 1 < cLine; omega) ha S1 rv (by omega) hadd fun b' h2 tk2 ps2 hs S2 hps2 hsz hled => ?_))
    have km2 : ∀ c o, ¬ X c → h1.get? c = some o → ¬ X c ∧ h2.get? c = some o := fun c o hc e => ⟨hc, (hs.2 c fun q => hc (q ▸ ha)).trans e⟩
    refine wpAny_pure ⟨plainId_quiet PyProof.Rows.F.plain_set_update_loop _, ?_⟩
    refine ih (i + 1) { s with heap := h2, toks := tk2 } ps2 st2.2 st (by omega) hlt ?_ ?_ ((hr.map km).map km2) S2 (by omega) (by rw [hps2]; exact hok) fun h3 tk3 ps3 k3 S3 e3 l3 => ?_
    · obtain ⟨o, e, r⟩ := st1.1
      exact ⟨o, (hs.2 I hIa).trans e, r⟩
    · exact st1.2.at fun o e => (hs.2 ax fun q => hax (q ▸ ha)).trans e
    · exact hR h3 tk3 ps3 (fun c o q1 q2 e => k3 c o q1 q2 ((hs.2 c q2).trans (k9 c o q1 e))) S3 e3 (l3.trans hled)

theorem set_new_led (a : Value) {Q₁ : Value → Shared → Prop}
    (h : Q₁ (.ref s.heap.objs.size) { s with heap := s.heap.push { cls := .type "set", dict := none, data := .set #[] 0 (.fresh 0 0 (!W.w.params.followText "set-order")) } }) :
    codeAny (model W.prog W.w) A (.call (.builtin "set.__new__") ⟨[.type "set", a], []⟩) (wants Q₁ E) s := by
  refine codeAny_of_tree ?_
  show wpAny _ A.in1 (do checkBuiltinCall "set.__new__" ⟨[.type "set", a], []⟩; again (.builtin "set.__new__" ⟨[.type "set", a], []⟩)) _ _ s
  refine wpAny_bind (wpAny_of_eq (PySem.F.newCall_set_1 a) (wpAny_pure ⟨plainId_quiet PySem.F.plain_set_new _, codeAny_builtin PySem.F.entry_set_new ?_⟩))
  rw [Around.under_plainId PySem.F.plain_set_new _]
  unfold Builtin.«set.__new__» Builtin.Frozenset.newClass
  have hsub := sub_set_self
  obtain ⟨hp, g, d, tk, os⟩ := s
  dsimp only
  wp_walk
  refine wpAny_askSetting (wpAny_pure ?_)
  dsimp only
  simp only [newObj]
  refine wpAny_bind (wpAny_alloc (wpAny_pure ?_))
  exact wpAny_pure h

theorem rows_of {ds : List D} (h : ds.all isRow = true) : ds = (ds.map rowInts).map rowD := by
  induction ds with
  | nil => rfl
  | cons d ds ih =>
    rw [List.all_cons, Bool.and_eq_true] at h
    rw [List.map_cons, List.map_cons, ← ih h.2]
    obtain ⟨r, rfl⟩ := row_of_isRow h.1
    rw [rowInts_rowD]

theorem fresh_is {h : Heap} {a : Addr} {o : Obj} {led : Bool} (ho : h.get? a = some o) (hc : o.cls = .type "set") (hd : o.data = .set #[] 0 (.fresh 0 0 led)) : SetIs X h a #[] (.fresh 0 0 led) :=
  ⟨⟨o, 0, ho, hc, by rw [hd]; simp [PsA.es]⟩, rfl, rfl, fun x hx => by simp at hx⟩

theorem SetIs.at_end {h : Heap} {a : Addr} {ps : PsA} {t : SetTable} (S : SetIs X h a ps t) {Y : Addr → Prop} (hY : ∀ b, Y b → X b) (hw : walkOK t ps.size = true) (hl : t.led = true ∨ W.w.params.followText "set-order" = true) : SetAt W Y h a ((ps.rs.toList.map (·.2)).map rowD) := by
  obtain ⟨o, ep, ho, hc, hd⟩ := S.at_
  refine ⟨o, ps.es, ep, t, ps.es.toList.map (·.2), ho, hc, hd, by rw [ps.es_size]; exact S.fits, by rw [ps.es_size]; exact hw, hl, S.plain, .refl _, ?_⟩
  have key : ∀ l : List (Int × List Int × Addr), (∀ x ∈ l, Rep X h (.ref x.2.2) (rowD x.2.1)) → Reps Y h (l.map fun x => Value.ref x.2.2) (l.map fun x => rowD x.2.1) := by
    intro l
    induction l with
    | nil => intro _; exact .nil
    | cons x l ih => intro hl; exact .cons ((hl x List.mem_cons_self).wide hY) (ih fun y hy => hl y (List.mem_cons_of_mem _ hy))
  have := key ps.toList S.rep
  simpa [PsA.es, PsA.rs, List.map_map, Function.comp_def] using this
end
end Mine

end

section
open PySem PySem.W PySem.Calls PyProof.Rows PySem.Spec
namespace Mine

section
variable {W : Wd} {X : Addr → Prop} {A : Around} {E : Value → Shared → Prop} {s : Shared} {σ : Nat}

set_option maxHeartbeats 3200000 in
theorem set_call (hh : A.handled = none) (hA : A.units + 128 < cLine) {l : Addr} {vs : Array Value} {rs ks : List (List Int)} {Q : Value → Shared → Prop} (hl : s.heap.IsList l vs) (hXl : ¬ X l) (hX : ∀ b, X b → b < s.heap.objs.size) (hr : Reps X s.heap vs.toList (rs.map rowD)) (hlim : rs.length < 4000)
    (hks : setRows rs = some ks)
    (h : ∀ (h' : Heap) (tk : Nat), (∀ b o, s.heap.get? b = some o → h'.get? b = some o) → SetAt W X h' s.heap.objs.size (ks.map rowD) → Q (.ref s.heap.objs.size) { s with heap := h', toks := tk }) :
    wpAny (model W.prog W.w) A (call (.type "set") [.ref l]) Q E s := by
  obtain ⟨c, tl, hmro⟩ := PySem.F.called_set.mro
  have hmade := PySem.F.called_set.made
  have hsub := PySem.F.called_set.sub
  obtain ⟨st, hadds, hend⟩ : ∃ st, addsP rs (#[], .fresh 0 0 (!W.w.params.followText "set-order")) = some st ∧ (walkOK st.2 st.1.size = true ∧ st.2.led = (!W.w.params.followText "set-order") ∧ st.1.toList.map (·.2) = ks) := by
    unfold setRows at hks
    obtain ⟨a, h1, h2⟩ := Option.bind_eq_some_iff.mp hks
    split at h2
    · rename_i h3
      cases h2
      have key : ∀ led, setRun led rs = some ks → ∃ st, addsP rs (#[], .fresh 0 0 led) = some st ∧ (walkOK st.2 st.1.size = true ∧ st.2.led = led ∧ st.1.toList.map (·.2) = ks) := fun led hrun => by
        unfold setRun at hrun
        obtain ⟨st, e1, e2⟩ := Option.bind_eq_some_iff.mp hrun
        split at e2
        · rename_i hc
          cases e2
          simp only [Bool.and_eq_true, beq_iff_eq] at hc
          exact ⟨st, e1, hc.1.1.1.1, hc.1.1.2, rfl⟩
        · cases e2
      cases W.w.params.followText "set-order"
      · exact key true h1
      · exact key false h3
    · cases h2
  refine wpAny_call (codeAny_of_tree ?_)
  show wpAny _ _ (callAny (.type "set") _) _ _ _
  refine wpAny_pure ⟨Code.quiet_builtin _ (by decide +kernel), codeAny_builtin PySem.F.entry_type_call ?_⟩
  rw [Around.under_plain (weight_type_call_type "set" [.ref l] []) rfl]
  have h1 := PySem.F.called_set.notType
  have h2 := PySem.F.called_set.canCreate
  have hct := PySem.F.typeCall_set_1 (.ref l)
  repeat (any_goals (first | assumption | wp_step))
  refine codeAny_mono (set_new_led (W := W) (.ref l) (E := E) (Q₁ := fun obj s₁ => obj = .ref s.heap.objs.size ∧ s₁ = { s with heap := s.heap.push { cls := .type "set", dict := none, data := .set #[] 0 (.fresh 0 0 (!W.w.params.followText "set-order")) } }) ⟨rfl, rfl⟩) fun r s₁ hr1 => ?_
  cases r with
  | error e => exact hr1
  | ok fl =>
    cases fl with
    | ret obj =>
      obtain ⟨rfl, rfl⟩ := hr1
      generalize hled : (!W.w.params.followText "set-order") = led at hadds hend ⊢
      have hS : (s.heap.push { cls := .type "set", dict := none, data := .set #[] 0 (.fresh 0 0 led) }).get? s.heap.objs.size = some { cls := .type "set", dict := none, data := .set #[] 0 (.fresh 0 0 led) } := Heap.get?_push_size _ rfl
      have hT : Shared.TypeIs { s with heap := s.heap.push { cls := .type "set", dict := none, data := .set #[] 0 (.fresh 0 0 led) } } (.ref s.heap.objs.size) "set" := ⟨_, hS, rfl⟩
      have hli := PySem.F.called_set.init.lookup
      have hbi := PySem.F.called_set.init.bind (.ref s.heap.objs.size)
      repeat (any_goals (first | assumption | wp_step))
      refine codeAny_mono (codeAny_call_builtin (R := wants (fun r s₂ => r = .none ∧ ∃ h' tk, s₂ = { s with heap := h', toks := tk } ∧ (∀ b o, s.heap.get? b = some o → h'.get? b = some o) ∧ SetAt W X h' s.heap.objs.size (ks.map rowD)) E)
        PySem.F.called_set.init.plain PySem.F.entry_set_init (check_set_init_1 hT ?_)) fun r₂ s₂ hr₂ => ?_
      · obtain ⟨ol, hol, hcl, nl, hdl⟩ := hl
        obtain ⟨ocls, odict, odata, oslots⟩ := ol
        simp only at hcl hdl
        subst hcl; subst hdl
        have hol' : (s.heap.push { cls := .type "set", dict := none, data := .set #[] 0 (.fresh 0 0 led) }).get? l = some { cls := .type "list", dict := odict, data := .seq vs nl, slots := oslots } := Heap.get?_push_of_some _ hol
        have hsls := PySem.F.sub_list_set
        have hslf := PySem.F.sub_list_frozenset
        have hne : (Value.type "list" == Value.type "dict") = false := by decide
        have hl1 : (s.heap.push { cls := .type "set", dict := none, data := .set #[] 0 (.fresh 0 0 led) }).IsList l vs := ⟨_, hol', rfl, nl, rfl⟩
        unfold Builtin.«set.__init__» noKeywords Builtin.Frozenset.updateFrom
        generalize hPI : pyIter = PI
        wp_walk
        subst hPI
        refine wpAny_pyIter_list hl1 ?_
        refine wpAny_bind (wpAny_runValue ?_)
        have hlS : l < s.heap.objs.size := Heap.lt_size hol
        have kp : ∀ b o, s.heap.get? b = some o → ((s.heap.push { cls := .type "set", dict := none, data := .set #[] 0 (.fresh 0 0 led) }).push { cls := .type "list_iterator", data := .fields #[.ref l, .int 0 0] }).get? b = some o :=
          fun b o e => Heap.get?_push_of_some _ (Heap.get?_push_of_some _ e)
        have hsz2 : (s.heap.push { cls := .type "set", dict := none, data := .set #[] 0 (.fresh 0 0 led) }).objs.size = s.heap.objs.size + 1 := by rw [Heap.size_push]
        refine set_loop (W := W) (A := A.in1.in1) (X := fun b => X b ∨ b = s.heap.objs.size ∨ b = s.heap.objs.size + 1) (rs := rs) (items := vs) (by simp [hh]) (by show A.units + 1 + 1 + 96 < cLine; omega)
          (.inr (.inr hsz2)) (.inr (.inl rfl)) (fun q => ?_) (fun q => by have q' : s.heap.objs.size + 1 = s.heap.objs.size := hsz2.symm.trans q; omega) hlim vs.size 0 { s with heap := (s.heap.push { cls := .type "set", dict := none, data := .set #[] 0 (.fresh 0 0 led) }).push { cls := .type "list_iterator", data := .fields #[.ref l, .int 0 0] } } #[] (.fresh 0 0 led) st rfl (Nat.zero_le _) ⟨_, Heap.get?_push_size _ rfl, rfl, rfl⟩ (hl1.push _) (hr.map fun b o hb e => ⟨fun q => ?_, kp b o e⟩)
          (fresh_is (o := { cls := .type "set", dict := none, data := .set #[] 0 (.fresh 0 0 led) }) (Heap.get?_push_of_some _ hS) rfl rfl) (Nat.zero_le _) (by rw [List.drop_zero]; simpa [PsA.rs] using hadds) fun h' tk ps' k S e l9 => ?_
        · rcases q with q | q | q
          · exact hXl q
          · exact Nat.lt_irrefl _ (q ▸ hlS)
          · exact Nat.lt_irrefl _ (Nat.lt_trans (Nat.lt_succ_self _) (q ▸ hlS : s.heap.objs.size + 1 < s.heap.objs.size))
        · rcases q with q | q | q
          · exact hb q
          · exact Nat.lt_irrefl _ (q ▸ Heap.lt_size e)
          · exact Nat.lt_irrefl _ (Nat.lt_trans (Nat.lt_succ_self _) (q ▸ Heap.lt_size e : s.heap.objs.size + 1 < s.heap.objs.size))
        · show wpAny _ _ _ _ _ _
          refine wpAny_pure ?_
          show wpAny _ _ (ret Value.none) _ _ _
          refine wpAny_pure ⟨rfl, h', tk, rfl, fun b o e => ?_, ?_⟩
          · have := Heap.lt_size e
            exact k b o (Nat.ne_of_lt (by rw [hsz2]; exact Nat.lt_succ_of_lt this)) (Nat.ne_of_lt this) (kp b o e)
          · have q := S.at_end (W := W) (Y := X) (fun b hb => .inl hb) (by rw [← PsA.rs_size, e]; exact hend.1) (by
              rw [l9]
              show led = true ∨ _
              rw [← hled]
              cases W.w.params.followText "set-order" <;> simp)
            rw [e, hend.2.2] at q
            exact q
      · cases r₂ with
        | error e => exact hr₂
        | ok fl₂ =>
          cases fl₂ with
          | ret r =>
            obtain ⟨rfl, h', tk, rfl, hk', hS'⟩ := hr₂
            repeat (any_goals (first | assumption | wp_step))
            exact h _ _ hk' hS'
          | _ => exact hr₂.elim
    | _ => exact hr1.elim

theorem set_make (Wo : WdOk W) {ds : List D} {ks : List (List Int)} {u : Value} {Q : Value → Shared → Prop} (hh : A.handled = none) (hA : A.units + 128 < cLine) (hd : ds.all isRow = true) (hl9 : ds.length < 4000) (hks : setRows (ds.map rowInts) = some ks) (x : XOk W X s.heap) (i : Inv W σ s.heap) (r : Rep X s.heap u (.list ds))
    (P : PostV W X σ (.setk (ks.map rowD)) s Q) : wpAny (model W.prog W.w) A (call (.type "set") [u]) Q E s := by
  cases r with
  | @list l o vs n9 _ hx ho hc hdt hdn hr hl =>
    rw [rows_of hd] at hr
    refine set_call hh hA ⟨o, ho, hc, n9, hdt⟩ hx (fun b hb => x.lt hb) hr (by rw [List.length_map]; exact hl9) hks fun h' tk k S => ?_
    exact P _ h' tk (Gr.of_keeps k) (i.keeps Wo k) ⟨_, rfl, x.new, S⟩
end
end Mine

end

section
open PySem PySem.W PySem.Calls PyProof.Rows PySem.Spec
namespace Mine

theorem sit_slot_next : Slot "set_iterator" "__next__" "set_iterator.__next__" :=
  .of (owner := "set_iterator") (n := "__next__") (by rw [typeLookup_type, builtinLookup_eq_fast]; kernel_rfl) (by decide +kernel) (by decide +kernel) (by decide +kernel)
    (by first | exact .inl (by decide +kernel) | exact .inr (by decide +kernel)) (by rw [isSubtype_type]; kernel_rfl)
theorem sit_slot_iter : Slot "set_iterator" "__iter__" "set_iterator.__iter__" :=
  .of (owner := "set_iterator") (n := "__iter__") (by rw [typeLookup_type, builtinLookup_eq_fast]; kernel_rfl) (by decide +kernel) (by decide +kernel) (by decide +kernel)
    (by first | exact .inl (by decide +kernel) | exact .inr (by decide +kernel)) (by rw [isSubtype_type]; kernel_rfl)
theorem sit_entry_next : entryFor table "set_iterator.__next__" = some Builtin.«set_iterator.__next__» := entryFor_of_tree (by kernel_rfl)
theorem sit_entry_iter : entryFor table "set_iterator.__iter__" = some Builtin.«dict_keyiterator.__iter__» :=
  entryFor_alias (id' := "dict_keyiterator.__iter__") (by kernel_rfl) rfl (by decide +kernel) (by kernel_rfl)
theorem set_entry_iter : entryFor table "set.__iter__" = some Builtin.«frozenset.__iter__» :=
  entryFor_alias (id' := "frozenset.__iter__") (by kernel_rfl) rfl (by decide +kernel) (by kernel_rfl)
theorem sit_owner : Manifest.owners.lookup (String.ofList ['r', 'o', 't', 'a', 'r', 'e', 't', 'i', '_', 't', 'e', 's'].reverse) = some Manifest.sig_set_iterator := by kernel_rfl
theorem sit_args_next (a : Value) : argsOk "set_iterator.__next__" ⟨[a], []⟩ := by
  unfold argsOk; rw [signature?_of (id := "set_iterator.__next__") (n := ['_', '_', 't', 'x', 'e', 'n', '_', '_']) (o := ['r', 'o', 't', 'a', 'r', 'e', 't', 'i', '_', 't', 'e', 's']) (by kernel_rfl) sit_owner]; kernel_rfl
theorem sit_args_iter (a : Value) : argsOk "set_iterator.__iter__" ⟨[a], []⟩ := by
  unfold argsOk; rw [signature?_of (id := "set_iterator.__iter__") (n := ['_', '_', 'r', 'e', 't', 'i', '_', '_']) (o := ['r', 'o', 't', 'a', 'r', 'e', 't', 'i', '_', 't', 'e', 's']) (by kernel_rfl) sit_owner]; kernel_rfl

theorem pick_go {α : Type} (next : Nat → Nat) : ∀ (fuel k : Nat) (left : List α) (out : Array α), left.length = fuel → (pickOrder.go next fuel k left out).toList.Perm (out.toList ++ left) := by
  intro fuel
  induction fuel with
  | zero =>
    intro k left out h
    rw [List.length_eq_zero_iff.mp h, List.append_nil]
    exact .refl _
  | succ fuel ih =>
    intro k left out h
    have hlt : next k % left.length < left.length := Nat.mod_lt _ (by omega)
    unfold pickOrder.go
    rw [List.getElem?_eq_getElem hlt]
    dsimp only
    refine (ih (k + 1) _ _ (by rw [List.length_eraseIdx_of_lt hlt]; omega)).trans ?_
    rw [Array.toList_push, List.append_assoc]
    refine List.Perm.append_left _ ?_
    rw [List.singleton_append]
    have e : left = left.take (next k % left.length) ++ left[next k % left.length] :: left.drop (next k % left.length + 1) := by
      rw [← List.drop_eq_getElem_cons hlt, List.take_append_drop]
    rw [List.eraseIdx_eq_take_drop_succ]
    refine List.Perm.trans ?_ (List.Perm.of_eq e.symm)
    exact List.perm_middle.symm
theorem pick_perm {α : Type} (next : Nat → Nat) (xs : Array α) : (pickOrder next xs).toList.Perm xs.toList := by
  unfold pickOrder
  have := pick_go next xs.size 0 xs.toList #[] (by simp)
  simpa using this

theorem perm_reps {X : Addr → Prop} {h : Heap} {vs acc : List Value} (hp : acc.Perm vs) : ∀ {ds : List D}, Reps X h vs ds → ∃ ds', ds'.Perm ds ∧ Reps X h acc ds' := by
  induction hp with
  | nil => intro ds r; cases r; exact ⟨[], .refl _, .nil⟩
  | cons v _ ih =>
    intro ds r
    cases r with
    | cons h1 r =>
      obtain ⟨ds', p, q⟩ := ih r
      exact ⟨_ :: ds', p.cons _, .cons h1 q⟩
  | swap u v l =>
    intro ds r
    cases r with
    | cons h1 r =>
      cases r with
      | cons h2 r => exact ⟨_, List.Perm.swap .., .cons h2 (.cons h1 r)⟩
  | trans _ _ ih1 ih2 =>
    intro ds r
    obtain ⟨d1, p1, r1⟩ := ih2 r
    obtain ⟨d2, p2, r2⟩ := ih1 r1
    exact ⟨d2, p2.trans p1, r2⟩
theorem perm_rows {ds : List D} {rs : List (List Int)} (hp : ds.Perm (rowsD rs)) : ∃ rs', ds = rowsD rs' ∧ rs'.Perm rs := by
  have hall : ∀ d ∈ ds, ∃ r, d = rowD r := fun d hd => by
    obtain ⟨r, _, e⟩ := List.mem_map.mp (hp.mem_iff.mp hd)
    exact ⟨r, e.symm⟩
  have e : ds = rowsD (ds.map rowInts) := by
    clear hp
    induction ds with
    | nil => rfl
    | cons d ds ih =>
      obtain ⟨r, rfl⟩ := hall d List.mem_cons_self
      have := ih fun d hd => hall d (List.mem_cons_of_mem _ hd)
      show rowD r :: ds = rowD (rowInts (rowD r)) :: rowsD (ds.map rowInts)
      rw [← this, rowInts_rowD]
  refine ⟨ds.map rowInts, e, ?_⟩
  have h2 := hp.map rowInts
  have e2 : (rowsD rs).map rowInts = rs := by
    unfold rowsD
    rw [List.map_map]
    have : (rowInts ∘ rowD) = id := funext rowInts_rowD
    rw [this, List.map_id]
  rw [e2] at h2
  exact h2

section
variable {W : Wd} {X : Addr → Prop} {A : Around} {E : Value → Shared → Prop} {s : Shared} {σ : Nat}

/-- the sequence in which a set's elements come -/
noncomputable def ordF (W : Wd) (d : Addr) (ep : Nat) (es : Array (Int × Value)) : Array (Int × Value) := if W.w.params.followText "set-order" then pickOrder (W.w.params.setOrder d ep) es else es
theorem ordF_perm (W : Wd) (d : Addr) (ep : Nat) (es : Array (Int × Value)) : (ordF W d ep es).toList.Perm es.toList := by
  unfold ordF
  split
  · exact pick_perm _ _
  · exact .refl _
theorem ordF_size (W : Wd) (d : Addr) (ep : Nat) (es : Array (Int × Value)) : (ordF W d ep es).size = es.size := by
  have := (ordF_perm W d ep es).length_eq
  simpa using this

noncomputable def fstF (W : Wd) (t : SetTable) (i : Nat) : Int := if W.w.params.followText "set-order" then 0 else (slotOf t i : Nat)
noncomputable def SetA (h : Heap) (d : Addr) (es : Array (Int × Value)) (ep : Nat) (t : SetTable) : Prop := ∃ o, h.get? d = some o ∧ o.cls = .type "set" ∧ o.data = .set es ep t
noncomputable def SitA (W : Wd) (h : Heap) (I d : Addr) (i : Nat) (n ep : Nat) (t : SetTable) : Prop := ∃ o, h.get? I = some o ∧ o.cls = .type "set_iterator" ∧ o.data = .fields #[.int (fstF W t i) 0, .int i 0, .ref d, .int n 0, .int ep 0]

theorem SetA.at' {h h' : Heap} {d : Addr} {es : Array (Int × Value)} {ep : Nat} {t : SetTable} (x : SetA h d es ep t) (k : ∀ o, h.get? d = some o → h'.get? d = some o) : SetA h' d es ep t := let ⟨o, ho, r⟩ := x; ⟨o, k o ho, r⟩
theorem SitA.at' {h h' : Heap} {I d : Addr} {i n ep : Nat} {t : SetTable} (x : SitA W h I d i n ep t) (k : ∀ o, h.get? I = some o → h'.get? I = some o) : SitA W h' I d i n ep t := let ⟨o, ho, r⟩ := x; ⟨o, k o ho, r⟩
theorem SetA.typeIs {d : Addr} {es : Array (Int × Value)} {ep : Nat} {t : SetTable} (x : SetA s.heap d es ep t) : s.TypeIs (.ref d) "set" := let ⟨o, ho, hc, _⟩ := x; ⟨o, ho, hc⟩
theorem SitA.typeIs {I d : Addr} {i n ep : Nat} {t : SetTable} (x : SitA W s.heap I d i n ep t) : s.TypeIs (.ref I) "set_iterator" := let ⟨o, ho, hc, _⟩ := x; ⟨o, ho, hc⟩

theorem byText_ok {Q : Bool → Shared → Prop} (h : Q (W.w.params.followText "set-order") s) : wpAny (model W.prog W.w) A setsByText Q E s := by
  unfold setsByText
  exact wpAny_bind (wpAny_askSetting (wpAny_pure h))

theorem SetA.state {d : Addr} {es : Array (Int × Value)} {ep : Nat} {t : SetTable} (x : SetA s.heap d es ep t) (hf : t.fits es.size = true) {Q : (Array (Int × Value) × Nat × SetTable) → Shared → Prop} (h : Q (es, ep, t) s) : wpAny (model W.prog W.w) A (setState d) Q E s :=
  let ⟨_, ho, _, hd⟩ := x; wpAny_setState_of ho hd hf h

theorem set_iter {d : Addr} {es : Array (Int × Value)} {ep : Nat} {t : SetTable} {Q : Value → Shared → Prop} (x : SetA s.heap d es ep t) (hf : t.fits es.size = true) (hp : t.plain = true)
    (hQ : Q (.ref s.heap.objs.size) { s with heap := s.heap.push { cls := .type "set_iterator", data := .fields #[.int 0 0, .int 0 0, .ref d, .int es.size 0, .int ep 0] } }) :
    wpAny (model W.prog W.w) A (pyIter (.ref d)) Q E s := by
  refine wpAny_pyIter_slot x.typeIs PySem.F.slot_set_iter (wpAny_call_entry PySem.F.slot_set_iter x.typeIs set_entry_iter ?_ (PySem.F.args_set_iter_1 _))
  unfold Builtin.«frozenset.__iter__»
  refine wpAny_bind (m := Builtin.Frozenset.slot0 "__iter__" _) (wpAny_pure ?_)
  refine wpAny_bind ?_
  unfold Builtin.Frozenset.sizeOf setEntries
  refine wpAny_bind (wpAny_bind (x.state hf (wpAny_pure (wpAny_pure ?_))))
  have hdr : ∀ {Q : Bool → Shared → Prop}, Q false s → wpAny (model W.prog W.w) A.in1 (setDrawn d) Q E s := fun {Q} h => by
    unfold setDrawn
    refine wpAny_bind (x.state hf ?_)
    refine wpAny_bind (byText_ok ?_)
    refine wpAny_pure ?_
    have e : (!W.w.params.followText "set-order" && (!t.plain && decide (es.size > 1))) = false := by rw [hp]; simp
    show Q (!W.w.params.followText "set-order" && (!t.plain && decide (es.size > 1))) s
    rw [e]
    exact h
  refine wpAny_bind (hdr ?_)
  dsimp only
  rw [if_neg Bool.false_ne_true]
  refine wpAny_bind (wpAny_pure ?_)
  refine wpAny_bind ?_
  unfold setEpoch
  refine wpAny_bind (x.state hf (wpAny_pure ?_))
  refine wpAny_bind (wpAny_newObj_type (wpAny_pure ⟨_, rfl, "set_iterator", _, ⟨_, Heap.get?_push_size _ rfl, rfl⟩, sit_slot_next.lookup, ?_⟩))
  exact hQ

theorem set_hint {r : Addr} {Q : Bool → Shared → Prop} (hT : s.TypeIs (.ref r) "set") (h : Q false s) : wpAny (model W.prog W.w) A (Builtin.List.listLengthHint (.ref r)) Q E s := by
  unfold Builtin.List.listLengthHint
  refine wpAny_bind (wpAny_specialOf hT PySem.F.slot_set_len.lookup ?_)
  generalize hid : ("set.__len__" : String) = id0
  wp_delta
  rw [show splitId id0 = some ("set", "__len__") from by subst hid; decide +kernel]
  subst hid
  refine wpAny_bind (wpAny_isInstance (T := "set") (b := true) hT (by rw [isSubtype_type]; kernel_rfl) ?_)
  refine wpAny_ite_split (fun hab => absurd hab (by decide)) (fun _ => ?_)
  refine wpAny_ite_split (fun _ => ?_) (fun hab => absurd (by decide +kernel) hab)
  refine wpAny_bind (wpAny_typeOf hT ?_)
  exact wpAny_pure h

theorem set_next {I d : Addr} {es : Array (Int × Value)} {i ep : Nat} {t : SetTable} {e : Int × Value} {Q : Option Value → Shared → Prop} (hit : SitA W s.heap I d i es.size ep t) (x : SetA s.heap d es ep t) (hf : t.fits es.size = true) (hp : t.plain = true)
    (hw : walkOK t es.size = true) (hl : t.led = true ∨ W.w.params.followText "set-order" = true) (hx : (ordF W d ep es)[i]? = some e)
    (hQ : ∀ h', SitA W h' I d (i + 1) es.size ep t → Heap.SameBut I s.heap h' → Q (some e.2) { s with heap := h' }) :
    wpAny (model W.prog W.w) A (pyNext (.ref I)) Q E s := by
  have hT := hit.typeIs
  obtain ⟨o, ho, hc, hd⟩ := id hit
  have hi : i < es.size := by
    rw [← ordF_size W d ep es]
    exact (Array.getElem?_eq_some_iff.mp hx).1
  unfold pyNext
  refine wpAny_bind (wpAny_attempt (wpAny_callSpecial?_slot (name := Str.ofString "__next__") hT sit_slot_next (wpAny_call_entry sit_slot_next hT sit_entry_next ?_ (sit_args_next _))))
  unfold Builtin.«set_iterator.__next__»
  refine wpAny_bind (wpAny_pure ?_)
  refine wpAny_bind (wpAny_fieldsOf ho hd ?_)
  dsimp only
  refine wpAny_bind ?_
  unfold setEntries
  refine wpAny_bind (x.state hf (wpAny_pure ?_))
  dsimp only
  rw [if_neg (by simp)]
  have hsn : ∀ {Q : Option (Value × Nat) → Shared → Prop} {E : Value → Shared → Prop}, (∀ nx : Nat, (nx : Int) = fstF W t (i + 1) → Q (some (e.2, nx)) s) → wpAny (model W.prog W.w) A.in1 (setNext d (fstF W t i).toNat (i : Int).toNat (ep : Int).toNat) Q E s := fun {Q E} h => by
    unfold setNext
    refine wpAny_bind (x.state hf ?_)
    dsimp only
    refine wpAny_bind (byText_ok ?_)
    by_cases hft : W.w.params.followText "set-order" = true
    · rw [if_pos hft]
      rw [if_neg (by simp)]
      unfold setWalk
      refine wpAny_bind (wpAny_bind (x.state hf ?_))
      dsimp only
      refine wpAny_bind (byText_ok ?_)
      rw [if_pos hft]
      refine wpAny_bind (wpAny_askSetting (wpAny_pure ?_))
      unfold ordF at hx
      rw [if_pos hft] at hx
      show wpAny _ _ (pure ((pickOrder (W.w.params.setOrder d ep) es)[(i : Int).toNat]?.map fun e => (e.2, (fstF W t i).toNat))) _ _ _
      rw [Int.toNat_natCast, hx]
      refine wpAny_pure (h _ ?_)
      unfold fstF
      rw [if_pos hft, if_pos hft]
      rfl
    · rw [if_neg hft]
      have hld : t.led = true := hl.elim id fun q => absurd q hft
      rw [if_neg (by show ¬ ((!t.plain && decide (es.size > 1)) = true); rw [hp]; simp)]
      refine wpAny_bind (wpAny_of_eq (a := ()) ?_ ?_)
      · show (if (!t.led && !es.isEmpty) = true then _ else pure ()) = _
        rw [hld]
        rfl
      unfold ordF at hx
      rw [if_neg hft] at hx
      have hb : SetTable.below t.place (fstF W t i).toNat = i := by
        unfold fstF
        rw [if_neg hft, Int.toNat_natCast]
        unfold walkOK at hw
        rw [List.all_eq_true] at hw
        exact eq_of_beq (hw i (List.mem_range.mpr (by omega)))
      have hps : t.place.size = es.size := by
        unfold SetTable.fits at hf
        simp only [Bool.and_eq_true, beq_iff_eq] at hf
        exact hf.1
      try dsimp only
      rw [hb, hx, Array.getElem?_eq_getElem (by omega : i < t.place.size)]
      refine wpAny_pure (h _ ?_)
      unfold fstF
      rw [if_neg hft]
      show ((t.place[i] + 1 : Nat) : Int) = ((t.place.getD i 0 + 1 : Nat) : Int)
      rw [Array.getD_eq_getD_getElem?, Array.getElem?_eq_getElem (by omega : i < t.place.size)]
      rfl
  refine wpAny_bind (hsn fun nx hnx => ?_)
  dsimp only
  refine wpAny_bind (wpAny_setField ho hd (by simp) ?_)
  have ho1 := Heap.get?_update_self (Obj.mapFields (·.setIfInBounds 0 (rawInt nx))) ho (Obj.isFreed_of_fields (Obj.data_mapFields hd _))
  refine wpAny_bind (wpAny_setField ho1 (Obj.data_mapFields hd _) (by simp) ?_)
  refine wpAny_pure ⟨_, rfl, wpAny_pure (hQ _ ?_ ((Heap.SameBut.update ..).trans (Heap.SameBut.update ..)))⟩
  have ho2 := Heap.get?_update_self (Obj.mapFields (·.setIfInBounds 1 (rawInt ((i : Int) + 1)))) ho1 (Obj.isFreed_of_fields (Obj.data_mapFields (Obj.data_mapFields hd _) _))
  refine ⟨_, ho2, (Obj.cls_mapFields ..).trans ((Obj.cls_mapFields ..).trans hc), ?_⟩
  rw [Obj.data_mapFields (Obj.data_mapFields hd _)]
  simp [rawInt, hnx]

theorem set_end {I d : Addr} {es : Array (Int × Value)} {ep : Nat} {t : SetTable} {Q : Option Value → Shared → Prop} (hh : A.handled = none) (hit : SitA W s.heap I d es.size es.size ep t) (x : SetA s.heap d es ep t) (hf : t.fits es.size = true) (hp : t.plain = true)
    (hw : walkOK t es.size = true) (hl : t.led = true ∨ W.w.params.followText "set-order" = true)
    (hQ : ∀ h', Heap.ExtBut I s.heap h' → Q none { s with heap := h' }) :
    wpAny (model W.prog W.w) A (pyNext (.ref I)) Q E s := by
  have hT := hit.typeIs
  obtain ⟨o, ho, hc, hd⟩ := id hit
  unfold pyNext
  refine wpAny_bind (wpAny_attempt (wpAny_callSpecial?_slot (name := Str.ofString "__next__") hT sit_slot_next (wpAny_call_entry sit_slot_next hT sit_entry_next ?_ (sit_args_next _))))
  unfold Builtin.«set_iterator.__next__»
  refine wpAny_bind (wpAny_pure ?_)
  refine wpAny_bind (wpAny_fieldsOf ho hd ?_)
  dsimp only
  refine wpAny_bind ?_
  unfold setEntries
  refine wpAny_bind (x.state hf (wpAny_pure ?_))
  dsimp only
  rw [if_neg (by simp)]
  have hsn : ∀ {Q : Option (Value × Nat) → Shared → Prop} {E : Value → Shared → Prop}, Q none s → wpAny (model W.prog W.w) A.in1 (setNext d (fstF W t es.size).toNat (es.size : Int).toNat (ep : Int).toNat) Q E s := fun {Q E} h => by
    unfold setNext
    refine wpAny_bind (x.state hf ?_)
    dsimp only
    refine wpAny_bind (byText_ok ?_)
    by_cases hft : W.w.params.followText "set-order" = true
    · rw [if_pos hft]
      rw [if_neg (by simp)]
      unfold setWalk
      refine wpAny_bind (wpAny_bind (x.state hf ?_))
      dsimp only
      refine wpAny_bind (byText_ok ?_)
      rw [if_pos hft]
      refine wpAny_bind (wpAny_askSetting (wpAny_pure ?_))
      have hx : (pickOrder (W.w.params.setOrder d ep) es)[es.size]? = none := by
        have := ordF_size W d ep es
        unfold ordF at this
        rw [if_pos hft] at this
        exact Array.getElem?_eq_none (by omega)
      show wpAny _ _ (pure ((pickOrder (W.w.params.setOrder d ep) es)[(es.size : Int).toNat]?.map fun e => (e.2, (fstF W t es.size).toNat))) _ _ _
      rw [Int.toNat_natCast, hx]
      exact wpAny_pure h
    · rw [if_neg hft]
      have hld : t.led = true := hl.elim id fun q => absurd q hft
      rw [if_neg (by show ¬ ((!t.plain && decide (es.size > 1)) = true); rw [hp]; simp)]
      refine wpAny_bind (wpAny_of_eq (a := ()) ?_ ?_)
      · show (if (!t.led && !es.isEmpty) = true then _ else pure ()) = _
        rw [hld]
        rfl
      have hb : SetTable.below t.place (fstF W t es.size).toNat = es.size := by
        unfold fstF
        rw [if_neg hft, Int.toNat_natCast]
        unfold walkOK at hw
        rw [List.all_eq_true] at hw
        exact eq_of_beq (hw es.size (List.mem_range.mpr (by omega)))
      try dsimp only
      rw [hb, Array.getElem?_eq_none (Nat.le_refl _)]
      exact wpAny_pure h
  refine wpAny_bind (hsn ?_)
  dsimp only
  refine wpAny_bind (wpAny_setField ho hd (by simp) ?_)
  show wpAny _ _ (newExc (.type "StopIteration") [] >>= _) _ _ _
  refine wpAny_bind ?_
  simp only [newExc, newTuple]
  refine wpAny_bind (wpAny_newObj_type ?_ (by size_fits))
  refine wpAny_bind (m := firstArgMember _ _) (wpAny_of_eq (a := Value.none) (by first | rfl | (simp only [firstArgMember]; rfl)) ?_)
  refine wpAny_newObj_type ?_ (by size_fits)
  simp only [raiseNew]
  refine wpAny_bind (wpAny_handled ?_)
  rw [show A.in1.handled = none from hh]
  refine wpAny_bind (wpAny_pure (wpAny_throw ?_))
  refine wpAny_bind (wpAny_isInstance (T := "StopIteration") (b := true) ⟨_, Heap.get?_push_size _ rfl, rfl⟩ isSubtype_stop ?_)
  exact wpAny_pure (hQ _ (((Heap.SameBut.update ..).extBut.push _).push _))

theorem walks_set (hh : A.handled = none) (I d : Addr) (hne : d ≠ I) {es : Array (Int × Value)} {ep : Nat} {t : SetTable} (hf : t.fits es.size = true) (hp : t.plain = true)
    (hw : walkOK t es.size = true) (hl : t.led = true ∨ W.w.params.followText "set-order" = true) :
    Walks W.prog W.w A I [I, d] [I] es.size (fun i v => ∃ e, (ordF W d ep es)[i]? = some e ∧ v = e.2) (fun i h => SitA W h I d i es.size ep t ∧ SetA h d es ep t) where
  sub := fun b hb => by simp at hb; simp [hb]
  frame := fun _ _ _ st hk => ⟨st.1.at' fun o e => hk I (by simp) o e, st.2.at' fun o e => hk d (by simp) o e⟩
  item := fun i s Q E hi st hQ => by
    have hi' : i < (ordF W d ep es).size := by rw [ordF_size]; exact hi
    refine set_next st.1 st.2 hf hp hw hl (Array.getElem?_eq_getElem hi') fun h' hit' hs' => ?_
    exact hQ _ h' s.toks ⟨_, Array.getElem?_eq_getElem hi', rfl⟩ ⟨hit', st.2.at' fun o e => hs'.extBut d o hne e⟩ fun b o hb e => hs'.extBut b o (fun h => hb (by simp [h])) e
  done := fun s Q E st hQ => set_end hh st.1 st.2 hf hp hw hl fun h' he' => hQ h' s.toks fun b o hb e => he' b o (fun h => hb (by simp [h])) e
  self := fun _ _ _ _ st hQ => by
    have hT := st.1.typeIs
    refine wpAny_pyIter_slot hT sit_slot_iter (wpAny_call_entry sit_slot_iter hT sit_entry_iter ?_ (sit_args_iter _))
    show wpAny _ _ (ret (.ref I)) _ _ _
    exact wpAny_pure ⟨_, rfl, "set_iterator", _, hT, sit_slot_next.lookup, hQ⟩

theorem src_set {d : Addr} {es : Array (Int × Value)} {ep : Nat} {t : SetTable} (hf : t.fits es.size = true) (hp : t.plain = true) (hw : walkOK t es.size = true) (hl : t.led = true ∨ W.w.params.followText "set-order" = true) :
    KdlSrc W.prog W.w "set" d d es.size (fun i v => ∃ e, (ordF W d ep es)[i]? = some e ∧ v = e.2) (fun h => SetA h d es ep t) where
  type := fun _ hm => hm.typeIs
  there := fun _ hm => let ⟨_, ho, _⟩ := hm; ⟨Heap.lt_size ho, Heap.lt_size ho⟩
  keep := fun _ _ hm hk => hm.at' fun o e => hk d (.inl rfl) o e
  notList := by decide
  notTuple := by decide
  hint := fun _ _ _ _ hm hq => set_hint hm.typeIs hq
  iter := fun A s hh hm => by
    have hlt : d < s.heap.objs.size := let ⟨_, ho, _⟩ := hm; Heap.lt_size ho
    refine ⟨_, _, fun _ _ hq => set_iter hm hf hp hq, walks_set hh _ d (Nat.ne_of_lt hlt) hf hp hw hl, ⟨⟨_, Heap.get?_push_size _ rfl, rfl, ?_⟩, hm.at' fun o e => push_keeps _ _ d o e⟩⟩
    have e : fstF W t 0 = 0 := by unfold fstF slotOf; split <;> rfl
    rw [e]
    rfl

theorem sorted_set_ok (Wo : WdOk W) {ks : List D} {u : Value} {Q : Value → Shared → Prop} (hh : A.handled = none) (x : XOk W X s.heap) (i : Inv W σ s.heap) (hk : ks.all isRow1 = true) (hl : ks.length < 64) (hnd : (ks.map rowInts).Nodup) (r : RepV W X s.heap u (.setk ks))
    (P : PostV W X σ (.d (.list (sortRows ks))) s Q) : wpAny (model W.prog W.w) A (call (.builtin "sorted") [u]) Q E s := by
  obtain ⟨a, rfl, hx, o, es, ep, t, vs, ho, hc, hd, hf, hw, hled, hp, hperm, hr⟩ := r
  have hrow : ks.all isRow = true := by
    rw [List.all_eq_true] at hk ⊢
    intro d hd
    have := hk d hd
    unfold isRow1 at this
    rw [Bool.and_eq_true] at this
    exact this.1
  have hks : ks = rowsD (ks.map rowInts) := rows_of hrow
  have hlen : es.size = ks.length := by
    have h1 := hperm.length_eq
    have h2 := hr.length
    simp at h1
    omega
  have P' : PostV W X σ (.d (.list (rowsD (sortR (ks.map rowInts))))) s Q := by
    rw [← sortR_D, ← hks]; exact P
  refine sorted_src (rs := ks.map rowInts) Wo (src_set hf hp hw hled) hh ⟨o, ho, hc, hd⟩ x i (by omega) (fun acc h' hk' hal hacc => ?_) hnd (isRow1_ne (by rw [← hks]; exact hk)) (by rw [List.length_map]; omega) P'
  have hacc' : acc = (ordF W a ep es).toList.map (·.2) := by
    refine List.ext_getElem? fun j => ?_
    rw [List.getElem?_map, Array.getElem?_toList (xs := ordF W a ep es)]
    by_cases hj : j < acc.length
    · obtain ⟨en, hen, hv⟩ := hacc j acc[j] (List.getElem?_eq_getElem hj)
      rw [List.getElem?_eq_getElem hj, hv, hen]
      rfl
    · rw [List.getElem?_eq_none (by omega), Array.getElem?_eq_none (by rw [ordF_size]; omega)]
      rfl
  have hpa : acc.Perm vs := by
    rw [hacc']
    exact ((ordF_perm W a ep es).map _).trans hperm
  obtain ⟨rs', hp', hr'⟩ := perm_reps hpa (hr.map fun b o hb e => ⟨hb, hk' b o e⟩)
  rw [hks] at hp'
  obtain ⟨rs2, e2, hp2⟩ := perm_rows hp'
  exact ⟨rs2, hp2, by rw [← e2]; exact hr'⟩
end
end Mine

end

section
open PySem PySem.W PySem.Calls PyProof.Rows PySem.Spec
namespace Mine

structure FvFacts (W : Wd) : Prop where
  len : W.fv "len" = .builtin "len"
  tuple : W.fv "tuple" = .type "tuple"
  dict : W.fv "dict" = .type "dict"
  sorted : W.fv "sorted" = .builtin "sorted"
  set : W.fv "set" = .type "set"
  abs : W.fv "abs" = .builtin "abs"
  int : W.fv "int" = .type "int"
  ev : W.fv "Evaluator" = .ref W.ec

theorem meths_basic : ∀ m, meths.contains m = true → ∀ vs σ, basic (("Evaluator." : Str) ++ m) vs σ = none := by
  intro m hm vs σ
  simp only [meths, List.contains_eq_mem, List.mem_cons, List.not_mem_nil, or_false, decide_eq_true_eq] at hm
  rcases hm with rfl | rfl | rfl | rfl <;> rfl

theorem rep_one {W : Wd} {X : Addr → Prop} {h : Heap} {us : List Value} {vs : List V} {v : V} (e : one? vs = some v) (r : RepVs W X h us vs) : ∃ u, us = [u] ∧ RepV W X h u v := by
  rw [one_inv e] at r
  cases r with
  | cons h1 r => cases r; exact ⟨_, rfl, h1⟩

theorem basic_call {W : Wd} (Wo : WdOk W) (F : FvFacts W) (M : MakeFacts W) {A : Around} {X : Addr → Prop} {E : Value → Shared → Prop} {s : Shared} {us : List Value} {vs : List V} {f : Str} {σ σ' : Nat} {v : V} {Q : Value → Shared → Prop} (h : basic f vs σ = some (v, σ'))
    (R : Room 2 A) (x : XOk W X s.heap) (i : Inv W σ s.heap) (r : RepVs W X s.heap us vs) (P : PostV W X σ' v s Q) : wpAny (model W.prog W.w) A (call (W.fv f) us) Q E s := by
  have hu : A.units + 128 < cLine := by have := R.2.2; unfold cLine; omega
  refine condK h (fun e h => ?_) fun _ h => condK h (fun e h => ?_) fun _ h => condK h (fun e h => ?_) fun _ h => condK h (fun e h => ?_) fun _ h => condK h (fun e h => ?_) fun _ h => condK h (fun e h => ?_) fun _ h => condK h (fun e h => ?_) fun _ h => condS h fun e h => ?_
  all_goals rw [eq_of_beq e]; clear e
  · refine bindK h fun v hv h => bindK h fun ds hd h => bindK hd fun d h1 h2 => ?_
    obtain ⟨u, rfl, r9⟩ := rep_one hv r
    rw [F.len]
    rw [dOf_inv h1] at r9
    have P := P.of h
    clear h hd h1 hv
    induction d using D.casesOn
    case tup => cases h2; exact len_tup_ok i r9 P
    case list => cases h2; exact len_list_ok i r9 P
    all_goals exact nos h2
  · refine bindK h fun v hv h => bindK h fun d hd h => bindK h fun ds hl h => ?_
    obtain ⟨u, rfl, r9⟩ := rep_one hv r
    rw [dOf_inv hd, listD_inv hl] at r9
    rw [F.tuple]
    exact tuple_ok Wo x i r9 (P.of h)
  · refine bindK h fun v hv h => bindK h fun d hd h => bindK h fun ds hl h => bindK h fun ks hks h => ifS h fun hok h => ?_
    obtain ⟨u, rfl, r9⟩ := rep_one hv r
    rw [dOf_inv hd, listD_inv hl] at r9
    rw [F.dict]
    exact dict_ok Wo R.1 hu hks hok x i r9 (P.of h)
  · refine bindK h fun v hv h => ?_
    obtain ⟨u, rfl, r9⟩ := rep_one hv r
    rw [F.sorted]
    clear hv
    induction v using V.casesOn
    case keys ks =>
      refine ifS h fun hc h => andK hc fun h1 h2 => ?_
      exact sorted_keys_ok Wo R.1 x i h1 (of_decide_eq_true h2) r9 (P.of h)
    case setk ks =>
      refine ifS h fun hc h => andK hc fun hc h3 => andK hc fun h1 h2 => ?_
      exact sorted_set_ok Wo R.1 x i h1 (of_decide_eq_true h2) (of_decide_eq_true h3) r9 (P.of h)
    all_goals exact nos h
  · refine bindK h fun v hv h => bindK h fun d hd h => bindK h fun ds hl h => ifS h fun hc h => andK hc fun h1 h2 => ?_
    obtain ⟨u, rfl, r9⟩ := rep_one hv r
    rw [dOf_inv hd, listD_inv hl] at r9
    rw [F.set]
    obtain ⟨ks, hks, h⟩ := Option.map_eq_some_iff.mp h
    exact set_make Wo R.1 hu h1 (Nat.lt_trans (of_decide_eq_true h2) (by decide)) hks x i r9 (P.of (congrArg some h))
  · refine bindK h fun v hv h => bindK h fun d hd h => bindK h fun j hl h => ?_
    obtain ⟨u, rfl, r9⟩ := rep_one hv r
    rw [dOf_inv hd, intD_inv hl] at r9
    rw [F.abs]
    exact abs_ok i r9 (P.of h)
  · refine bindK h fun v hv h => bindK h fun d hd h => bindK h fun j hl h => ?_
    obtain ⟨u, rfl, r9⟩ := rep_one hv r
    rw [dOf_inv hd, intD_inv hl] at r9
    rw [F.int]
    exact int_ok i r9 (P.of h)
  · refine bindK h fun ab hv h => bindK h fun d hd h => bindK h fun j hl h => bindK h fun d2 hd2 h => bindK h fun rels hl2 h => ?_
    rw [two_inv hv, dOf_inv hd, intD_inv hl, dOf_inv hd2, listD_inv hl2] at r
    rw [F.ev]
    cases r with
    | cons h1 r => cases r with
      | cons h2 r => cases r; exact make_ok Wo M R x i h1 h2 (P.of h)

theorem basic_ok {W : Wd} (Wo : WdOk W) (F : FvFacts W) (M : MakeFacts W) (hk : keepIn W.K (.ref W.ec) = true) : TabOK W 2 basic where
  call := fun f vs σ v σ' h A R X E s us Q x i r P => basic_call Wo F M h R x i r P
  code := fun m vs σ v σ' hm h => by rw [meths_basic m hm] at h; exact nos h
  cw := fun f vs σ r h => by
    refine condK h (fun e _ => ?_) fun _ h => condK h (fun e _ => ?_) fun _ h => condK h (fun e _ => ?_) fun _ h => condK h (fun e _ => ?_) fun _ h => condK h (fun e _ => ?_) fun _ h => condK h (fun e _ => ?_) fun _ h => condK h (fun e _ => ?_) fun _ h => condS h fun e _ => ?_
    all_goals rw [eq_of_beq e]
    · rw [F.len]; exact cw_builtin
    · rw [F.tuple]; exact cw_type
    · rw [F.dict]; exact cw_type
    · rw [F.sorted]; exact cw_builtin
    · rw [F.set]; exact cw_type
    · rw [F.abs]; exact cw_builtin
    · rw [F.int]; exact cw_type
    · rw [F.ev]; exact cw_cls Wo hk
end Mine

end

section
open PySem PySem.W PySem.Calls PyProof.Rows PySem.Spec
namespace Mine

/-! ## the world from the fragment that the head writes out -/
noncomputable def glIn (K : Frag) (x : Str) : Option Value := match nsIn K mainGlobals x with
  | some (some v) => some v
  | _ => none
noncomputable def ecOf (K : Frag) : Addr := match glIn K ("Evaluator" : Str) with
  | some (.ref a) => a
  | _ => 0
noncomputable def mthIn (K : Frag) (m : Str) : Value := match findIn K (.ref (ecOf K)) m with
  | some (some v) => v
  | _ => .none
noncomputable def fvOf (K : Frag) (x : Str) : Value :=
  if x == ("Evaluator.of_two" : Str) then mthIn K "of_two" else if x == ("Evaluator.has_many" : Str) then mthIn K "has_many" else if x == ("Evaluator.truth" : Str) then mthIn K "truth" else if x == ("Evaluator.set_of" : Str) then mthIn K "set_of" else
  match glIn K x with
  | some v => v
  | none => (bootBuiltins x).getD .none
noncomputable def fdIn (K : Frag) : Value → Option FuncData
  | .ref a => (match K.lookup a with
    | some o => (match o.data with
      | .func fd => some fd
      | _ => none)
    | none => none)
  | _ => none
noncomputable def codeIn (K : Frag) (v : Value) (q : Str) : Bool := match v with
  | .ref c => (match K.lookup c with
    | some o => (match o.data with
      | .fields vs => (match (vs[1]? : Option Value) with
        | some (Value.str q' _) => q' == q
        | _ => false)
      | _ => false)
    | none => false)
  | _ => false
theorem codeIn_of {K : Frag} {h : Heap} {v : Value} {q : Str} (X : K.In h) (e : codeIn K v q = true) : h.CodeRec v q := by
  unfold codeIn at e
  split at e
  · rename_i c
    split at e
    · rename_i o ho
      split at e
      · rename_i vs hd
        split at e
        · rename_i q' t hv
          obtain rfl := eq_of_beq e
          exact ⟨c, o, vs, t, rfl, X _ _ ho, hd, hv⟩
        · cases e
      · cases e
    · cases e
  · cases e

noncomputable def dfOf (f : Str) : Def := (DEFS.lookup f).getD ⟨[], [], []⟩
noncomputable def flagsOf (fd : FuncData) : Bool × Bool × Bool × Bool := (fd.globals == mainGlobals, fd.builtins == builtinsNs, fd.scope.isCoroutine, fd.scope.isGenerator)
/-- what the object of a def holds -/
noncomputable def sigOf (K : Frag) (fd : FuncData) := (codeIn K fd.code fd.qualname, fd.body, fd.closure, flagsOf fd, fd.scope.kind, fd.scope.names)
structure FnK (K : Frag) (v : Value) (df : Def) : Prop where
  sig : ∃ fd, fdIn K v = some fd ∧ sigOf K fd = (true, .stmts df.body, [], (true, true, false, false), .function, df.names)
  few : df.params.length ≤ 6
  bind : ∀ x y z u w r, (fdIn K v).map (fun fd => bindArgs fd ⟨[x, y, z, u, w, r].take df.params.length, []⟩) = some (pure (df.params.zip ([x, y, z, u, w, r].take df.params.length)))

theorem take6 (d : Value) {l : List Value} (h : l.length ≤ 6) : [l.getD 0 d, l.getD 1 d, l.getD 2 d, l.getD 3 d, l.getD 4 d, l.getD 5 d].take l.length = l := by
  iterate 7
    cases l with
    | nil => rfl
    | cons _ l => _
  exact absurd h (by simp only [List.length_cons]; omega)

theorem fdIn_of {K : Frag} {v : Value} {fd : FuncData} (e : fdIn K v = some fd) : ∃ a o, v = .ref a ∧ K.lookup a = some o ∧ o.data = .func fd := by
  unfold fdIn at e
  split at e
  · rename_i a
    split at e
    · rename_i o ho
      split at e
      · rename_i fd' hd
        cases e
        exact ⟨a, o, rfl, ho, hd⟩
      · cases e
    · cases e
  · cases e

theorem FnK.ok {W : Wd} {v : Value} {df : Def} (X : W.K.In W.h₀) (F : FnK W.K v df) : FnOK W v df := by
  obtain ⟨⟨fd, hfd, h⟩, hle, h7⟩ := F
  obtain ⟨a, o, e, ho, hd⟩ := fdIn_of hfd
  rw [hfd] at h7
  have h4 : flagsOf fd = (true, true, false, false) := congrArg (·.2.2.2.1) h
  refine ⟨a, o, fd, e, X _ _ ho, hd, codeIn_of X (congrArg (·.1) h), congrArg (·.2.1) h, congrArg (·.2.2.1) h, eq_of_beq (congrArg (·.1) h4), eq_of_beq (congrArg (·.2.1) h4), congrArg (·.2.2.2.2.1) h, congrArg (·.2.2.1) h4, congrArg (·.2.2.2) h4, congrArg (·.2.2.2.2.2) h, fun vals hl => ?_⟩
  have := Option.some.inj (h7 (vals.getD 0 .none) (vals.getD 1 .none) (vals.getD 2 .none) (vals.getD 3 .none) (vals.getD 4 .none) (vals.getD 5 .none))
  rw [← hl, take6 .none (by rw [hl]; exact hle)] at this
  exact this

/-- the names that glob answers with functions -/
noncomputable def FNAMES : List Str := ["len", "tuple", "dict", "sorted", "set", "abs", "int", "range", "enumerate", "Evaluator", "_law_draw", "set_of", "set_of_sets", "union", "meet", "minus", "product", "join", "override", "ahead", "behind",
    "_law_all", "_law_some", "_law_width", "_law_lets", "_law_is_made", "_law_are_kept", "_law_is_so", "_law_are_counted"]
noncomputable def nameB (K : Frag) (x : Str) : Bool := match nsIn K mainGlobals x with
  | some (some v) => fvOf K x == v
  | some none => bootBuiltins x == some (fvOf K x) && !(x == ("__name__" : Str))
  | none => false
noncomputable def OPS : List Str := ["union", "meet", "minus", "join", "product", "override", "ahead", "behind"]
noncomputable def strV? : Value → Option Str
  | .str x _ => some x
  | _ => none
noncomputable def refV? : Value → Option Addr
  | .ref a => some a
  | _ => none
noncomputable def tupO? (o : Obj) : Option (List Value) := match o.data with
  | .seq vs _ => if o.cls = .type "tuple" then some vs.toList else none
  | _ => none
/-- the table of operations -/
noncomputable def opsIn (K : Frag) : Bool := ((nsIn K mainGlobals ("_law_OPS" : Str)).bind fun v => v.bind fun v => (refV? v).bind fun a => (K.lookup a).bind tupO?).map (·.map strV?) == some (OPS.map some)
noncomputable def rowsIn (K : Frag) : Bool := match nsIn K mainGlobals ("MOST_ROWS" : Str) with
  | some (some (.int i _)) => i == 2000000
  | _ => false

noncomputable def mkW (prog : Program) (w : World) (h₀ : Heap) (K : Frag) (mg mb : Str → Option Value) (fd cl : Addr) (cs : List Int) : Wd := ⟨prog, w, h₀, K, mg, mb, fd, cl, cs, fvOf K, ecOf K, fun _ => none⟩

noncomputable def FNS : List Str := ["Evaluator.__init__", "_law_draw", "set_of", "union", "meet", "minus", "product", "join", "override", "ahead", "behind", "Evaluator.set_of", "Evaluator.of_two", "Evaluator.truth", "Evaluator.has_many",
  "_law_all", "_law_some", "_law_width", "_law_lets", "_law_is_made", "_law_are_kept", "_law_is_so", "_law_are_counted"]
noncomputable def fvI (K : Frag) (p : Str) : Value := if p == ("Evaluator.__init__" : Str) then mthIn K "__init__" else fvOf K p

structure KFacts (K : Frag) : Prop where
  names : FNAMES.all (nameB K) = true
  ops : opsIn K = true
  rows : rowsIn K = true
  lib : (fvOf K "len" == .builtin "len" && fvOf K "tuple" == .type "tuple" && fvOf K "dict" == .type "dict" && fvOf K "sorted" == .builtin "sorted" && fvOf K "set" == .type "set" && fvOf K "abs" == .builtin "abs" && fvOf K "int" == .type "int" &&
    fvOf K "range" == .type "range" && fvOf K "enumerate" == .type "enumerate" && fvOf K "Evaluator" == .ref (ecOf K)) = true
  same : fvOf K "set_of_sets" = fvOf K "set_of"
  keep : keepIn K (.ref (ecOf K)) = true
  dict : hasDictIn K (ecOf K) = true
  own : (["many", "instance"] : List Str).all (fun x => plainGet K (ecOf K) x && (match findIn K (.ref (ecOf K)) x with | some attr => noGet K attr | none => false)) = true
  meth : meths.all (fun m => plainGet K (ecOf K) m && (match fvOf K (("Evaluator." : Str) ++ m) with
    | .ref f => findIn K (.ref (ecOf K)) m == some (some (.ref f)) && isFn K (.ref f) && fnIn K f && specialIn K (.ref f) "__get__" == some (some (.builtin "function.__get__")) && takesIn K (.ref f) == some false && !(copiedNames.contains m)
    | _ => false)) = true
  makes : makesIn K (ecOf K) = true
  over : plainOver K (ecOf K) = true
  setter : (findIn K (.ref (ecOf K)) "__setattr__" == some (some (.builtin "object.__setattr__"))) = true
  taker : (["many", "instance", "ways"] : List Str).all (fun x => takerIn K (ecOf K) x == some none) = true
  initT : (typeIn K (mthIn K "__init__") == some (.type "function") && findIn K (.ref (ecOf K)) "__init__" == some (some (mthIn K "__init__"))) = true
  sigs : FNS.map (fun p => (fdIn K (fvI K p)).map (sigOf K)) = FNS.map (fun p => some (true, .stmts (dfOf p).body, [], (true, true, false, false), .function, (dfOf p).names))
  binds : ∀ x y z u w r, FNS.map (fun p => (fdIn K (fvI K p)).map (fun fd => bindArgs fd ⟨[x, y, z, u, w, r].take (dfOf p).params.length, []⟩)) = FNS.map (fun p => some (pure ((dfOf p).params.zip ([x, y, z, u, w, r].take (dfOf p).params.length))))

theorem fns_few : FNS.all (fun p => decide ((dfOf p).params.length ≤ 6)) = true := by decide +kernel
theorem KFacts.fn {K : Frag} (F : KFacts K) {p : Str} (hp : p ∈ FNS) : FnK K (fvI K p) (dfOf p) := by
  refine ⟨?_, of_decide_eq_true (List.all_eq_true.mp fns_few p hp), fun x y z u w r => List.map_inj_left.mp (F.binds x y z u w r) p hp⟩
  obtain ⟨fd, h1, h2⟩ := Option.map_eq_some_iff.mp (List.map_inj_left.mp F.sigs p hp)
  exact ⟨fd, h1, h2⟩

theorem need_mem {f : Str} (h : NEED.contains f = true) : f ∈ NEED := by simpa using h

theorem defs_ok : NEED.all (fun f => defOK (dfOf (defName f))) = true := by decide +kernel

theorem need_fns : NEED.all (fun f => FNS.contains (defName f) && !(defName f == ("Evaluator.__init__" : Str))) = true := by decide +kernel
theorem fvI_of {K : Frag} {p : Str} (h : (p == ("Evaluator.__init__" : Str)) = false) : fvI K p = fvOf K p := if_neg (by rw [h]; exact Bool.false_ne_true)
theorem KFacts.fns {W : Wd} (F : KFacts W.K) (X : W.K.In W.h₀) (hv : W.fv = fvOf W.K) : FnsOK W DEFS where
  all := fun f hf df hdf => by
    have hm := need_mem hf
    have hdf' : dfOf (defName f) = df := by unfold dfOf; rw [hdf]; rfl
    refine andK (List.all_eq_true.mp need_fns f hm) fun h1 h2 => ⟨?_, by rw [← hdf']; exact List.all_eq_true.mp defs_ok f hm⟩
    have hk := F.fn (p := defName f) (by simpa using h1)
    rw [fvI_of (by simpa using h2)] at hk
    have hs : fvOf W.K (defName f) = fvOf W.K f := by
      unfold defName
      by_cases q : (f == ("set_of_sets" : Str)) = true
      · rw [if_pos q, eq_of_beq q]; exact F.same.symm
      · rw [if_neg q]
    rw [hv, ← hs, ← hdf']
    exact hk.ok X
end Mine

end

section
open PySem PySem.W PySem.Calls PyProof.Rows PySem.Spec
namespace Mine

theorem ints_of {X : Addr → Prop} {h : Heap} : ∀ {vs : List Value} {ns : List Int}, IntsAre vs ns → Reps X h vs (ns.map .int)
  | _, _, .nil => .nil
  | _, _, .cons _ _ r => .cons (.int _ _) (ints_of r)
theorem law_cells : ∀ y, celled lawD.names y → y = ("feed" : Str) ∨ y = ("n" : Str) := by
  intro y hy
  have h : lawD.names.all (fun p => (p.2 != .cell && p.2 != .free) || p.1 == ("feed" : Str) || p.1 == ("n" : Str)) = true := by decide +kernel
  rw [List.all_eq_true] at h
  rcases hy with hy | hy
  · have := h _ (lookup_mem hy)
    simpa using this
  · have := h _ (lookup_mem hy)
    simpa using this
theorem law_named : ∀ x k, lawD.names.lookup x = some k → k ≠ .free ∧ (x == ("__debug__" : Str)) = false ∧ (x == ("__classdict__" : Str)) = false := by
  intro x k hx
  have h : lawD.names.all (fun p => p.2 != .free && !(p.1 == ("__debug__" : Str)) && !(p.1 == ("__classdict__" : Str))) = true := by decide +kernel
  rw [List.all_eq_true] at h
  have := h _ (lookup_mem hx)
  simp only [Bool.and_eq_true, bne_iff_ne, ne_eq, Bool.not_eq_true'] at this
  exact ⟨this.1.1, this.1.2, this.2⟩
theorem feed_cell : lawD.names.lookup ("feed" : Str) = some .cell := by decide +kernel

section
variable {prog : Program} {w : World} {K : Frag} {h₀ : Heap} {mg mb : Str → Option Value} {fd cl : Addr} {cs : List Int}

theorem strs_rep {X : Addr → Prop} {h : Heap} : ∀ {vs : List Value} {ws : List Str}, vs.map strV? = ws.map some → Reps X h vs (ws.map .str) := by
  intro vs
  induction vs with
  | nil =>
    intro ws e
    cases ws with
    | nil => exact .nil
    | cons _ _ => exact nomatch e
  | cons v vs ih =>
    intro ws e
    cases ws with
    | nil => exact nomatch e
    | cons w ws =>
      obtain ⟨e1, e2⟩ := List.cons.inj e
      refine .cons ?_ (ih e2)
      clear e ih
      induction v using Value.casesOn <;> first | exact nos e1 | (cases e1; exact .str _ _)
theorem ops_ok {h : Heap} {X : Addr → Prop} (X9 : K.In h₀) (hg : h₀.Ns mainGlobals mg) (hX : ∀ b, X b → h₀.get? b = none) (hb : ∀ b o, h₀.get? b = some o → h.get? b = some o) (e : opsIn K = true) :
    ∃ u, mg ("_law_OPS" : Str) = some u ∧ Rep X h u (.tup (OPS.map .str)) := by
  obtain ⟨vs, h1, h2⟩ := Option.map_eq_some_iff.mp (eq_of_beq e)
  refine bindK h1 fun ov hn h1 => bindK h1 fun v hv h1 => bindK h1 fun a ha h1 => bindK h1 fun o ho h1 => ?_
  have ev : v = .ref a := by
    clear hn hv h1
    induction v using Value.casesOn <;> first | exact nos ha | (cases ha; rfl)
  rw [hv, ev] at hn
  have h0 := X9 _ _ ho
  refine ⟨_, mg_of X9 hg hn, ?_⟩
  obtain ⟨cls, dict, data, sl⟩ := o
  induction data using Data.casesOn <;> try exact nos h1
  exact ifS h1 fun hc h1 => by
    cases h1
    exact .tup (fun q => by have := hX _ q; rw [this] at h0; cases h0) (hb _ _ h0) hc rfl (strs_rep h2) (by decide)
theorem rows_ok (X9 : K.In h₀) (hg : h₀.Ns mainGlobals mg) (e : rowsIn K = true) : ∃ t, mg ("MOST_ROWS" : Str) = some (.int 2000000 t) := by
  unfold rowsIn at e
  split at e
  · rename_i i t hn
    have e' : i = 2000000 := by simpa using e
    subst e'
    exact ⟨t, mg_of X9 hg hn⟩
  · cases e
theorem name_ok {x : Str} (X9 : K.In h₀) (hg : h₀.Ns mainGlobals mg) (hbt : ∀ x : Str, x ≠ "__name__" → mb x = bootBuiltins x) (e : nameB K x = true) : mg x = some (fvOf K x) ∨ (mg x = none ∧ mb x = some (fvOf K x)) := by
  unfold nameB at e
  split at e
  · rename_i v hn
    have e' : fvOf K x = v := by simpa using e
    rw [e']
    exact .inl (mg_of X9 hg hn)
  · rename_i hn
    simp only [Bool.and_eq_true, beq_iff_eq, Bool.not_eq_true', beq_eq_false_iff_ne, ne_eq] at e
    exact .inr ⟨mg_none_of X9 hg hn, by rw [hbt x e.2]; exact e.1⟩
  · cases e

theorem gok (KF : KFacts K) (X9 : K.In h₀) (hg : h₀.Ns mainGlobals mg) (hbt : ∀ x : Str, x ≠ "__name__" → mb x = bootBuiltins x) : GOK (mkW prog w h₀ K mg mb fd cl cs) glob := by
  intro x v h X hp σ x9 i9
  unfold glob at h
  split at h
  · rename_i e
    obtain rfl := eq_of_beq e
    cases h
    obtain ⟨t, ht⟩ := rows_ok X9 hg KF.rows
    exact ⟨_, .inl ht, .int _ _⟩
  · split at h
    · rename_i e
      obtain rfl := eq_of_beq e
      cases h
      obtain ⟨u, h1, h2⟩ := ops_ok (X := X) X9 hg x9.base i9.base KF.ops
      exact ⟨u, .inl h1, h2⟩
    · split at h
      · rename_i e
        cases h
        have hm : x ∈ FNAMES := by
          have : FNAMES.contains x = true := e
          simpa using this
        have hx := List.all_eq_true.mp KF.names x hm
        exact ⟨fvOf K x, name_ok X9 hg hbt hx, rfl⟩
      · cases h

theorem lib_all (KF : KFacts K) : fvOf K "len" = .builtin "len" ∧ fvOf K "tuple" = .type "tuple" ∧ fvOf K "dict" = .type "dict" ∧ fvOf K "sorted" = .builtin "sorted" ∧ fvOf K "set" = .type "set" ∧ fvOf K "abs" = .builtin "abs" ∧ fvOf K "int" = .type "int" ∧
    fvOf K "range" = .type "range" ∧ fvOf K "enumerate" = .type "enumerate" ∧ fvOf K "Evaluator" = .ref (ecOf K) := by
  have h := KF.lib
  simp only [Bool.and_eq_true, beq_iff_eq] at h
  obtain ⟨⟨⟨⟨⟨⟨⟨⟨⟨h1, h2⟩, h3⟩, h4⟩, h5⟩, h6⟩, h7⟩, h8⟩, h9⟩, h10⟩ := h
  exact ⟨h1, h2, h3, h4, h5, h6, h7, h8, h9, h10⟩

theorem wdok (KF : KFacts K) (X9 : K.In h₀) (hg : h₀.Ns mainGlobals mg) (hb : h₀.Ns builtinsNs mb) (hl : h₀.NoLimit) : WdOk (mkW prog w h₀ K mg mb fd cl cs) where
  ns := hg
  nb := hb
  lim := hl
  inK := X9
  sys := by
    obtain ⟨o, _, _, ho, _⟩ := hg
    exact ⟨mainGlobals, o, by decide, ho⟩
  fvr := (lib_all KF).2.2.2.2.2.2.2.1
  fve := (lib_all KF).2.2.2.2.2.2.2.2.1
theorem fvfacts (KF : KFacts K) : FvFacts (mkW prog w h₀ K mg mb fd cl cs) := by
  obtain ⟨h1, h2, h3, h4, h5, h6, h7, h8, h9, h10⟩ := lib_all KF
  exact ⟨h1, h2, h3, h4, h5, h6, h7, h10⟩
theorem evfacts (KF : KFacts K) : EvFacts (mkW prog w h₀ K mg mb fd cl cs) where
  dict := KF.dict
  own := fun x hx => by
    have h := List.all_eq_true.mp KF.own x hx
    rw [Bool.and_eq_true] at h
    refine ⟨h.1, ?_⟩
    have h2 := h.2
    split at h2
    · rename_i attr ha
      exact ⟨attr, ha, h2⟩
    · cases h2
  meth := fun m hm => by
    have hm' : m ∈ meths := by simpa using hm
    have h := List.all_eq_true.mp KF.meth m hm'
    rw [Bool.and_eq_true] at h
    refine ⟨h.1, ?_⟩
    have h2 := h.2
    split at h2
    · rename_i f hf
      simp only [Bool.and_eq_true, beq_iff_eq, Bool.not_eq_true'] at h2
      obtain ⟨⟨⟨⟨⟨g1, g2⟩, g3⟩, g4⟩, g5⟩, g6⟩ := h2
      exact ⟨f, hf, g1, g2, g3, g4, g5, g6⟩
    · cases h2
theorem init_def : defOK (dfOf "Evaluator.__init__") = true ∧ (dfOf "Evaluator.__init__").names.lookup ("self" : Str) = some .local ∧ (dfOf "Evaluator.__init__").names.lookup ("many" : Str) = some .local ∧ (dfOf "Evaluator.__init__").names.lookup ("instance" : Str) = some .local := by
  refine ⟨by decide +kernel, by decide +kernel, by decide +kernel, by decide +kernel⟩
theorem init_body : InitBody (dfOf "Evaluator.__init__") := ⟨_, _, _, _, _, _, _, _, _, _, _, _, _, rfl⟩
theorem makefacts (KF : KFacts K) (X9 : K.In h₀) : MakeFacts (mkW prog w h₀ K mg mb fd cl cs) where
  makes := KF.makes
  over := KF.over
  setter := beq_iff_eq.mp KF.setter
  taker := fun x hx => beq_iff_eq.mp (List.all_eq_true.mp KF.taker x hx)
  dict := KF.dict
  init := by
    have hT := KF.initT
    rw [Bool.and_eq_true] at hT
    have h1 := beq_iff_eq.mp hT.1
    have h2 := beq_iff_eq.mp hT.2
    have F : FnOK (mkW prog w h₀ K mg mb fd cl cs) (mthIn K "__init__") (dfOf "Evaluator.__init__") := (KF.fn (p := "Evaluator.__init__") (by unfold FNS; exact List.mem_cons_self)).ok X9
    obtain ⟨a, o, fd', e, r⟩ := id F.ex
    rw [e] at h1 h2 F
    exact ⟨a, dfOf "Evaluator.__init__", h2, h1, F, init_def.1, rfl, init_body, init_def.2⟩

theorem join_def : (dfOf "join").params = [("s" : Str), ("t" : Str)] ∧ (dfOf "join").names.lookup ("begun" : Str) = some .cell ∧ (dfOf "join").names.lookup ("late" : Str) = some .local ∧ (dfOf "join").names.lookup ("t" : Str) = some .local := by
  refine ⟨rfl, by decide +kernel, by decide +kernel, by decide +kernel⟩
theorem join_body : JoinBody (dfOf "join") := ⟨_, _, _, _, _, _, _, _, _, _, _, _, _, _, _, _, _, _, _, _, _, _, by rfl, by rfl, rfl⟩
theorem draw_def : (dfOf "_law_draw").params = [("feed" : Str), ("wide" : Str)] ∧ (dfOf "_law_draw").names.lookup ("feed" : Str) = some .local := ⟨rfl, by decide +kernel⟩
theorem draw_body : DrawBody (dfOf "_law_draw") := ⟨_, _, _, _, _, _, _, _, _, _, _, _, rfl⟩
theorem df_eq {f : Str} {df : Def} (h : DEFS.lookup f = some df) : df = dfOf f := by unfold dfOf; rw [h]; rfl

theorem tabs (KF : KFacts K) (X9 : K.In h₀) (hg : h₀.Ns mainGlobals mg) (hb : h₀.Ns builtinsNs mb) (hl : h₀.NoLimit) (hbt : ∀ x : Str, x ≠ "__name__" → mb x = bootBuiltins x) (k : Nat) : TabOK (mkW prog w h₀ K mg mb fd cl cs) (k + 2) (tab DEFS k) := by
  have Wo := wdok (prog := prog) (w := w) (fd := fd) (cl := cl) (cs := cs) KF X9 hg hb hl
  have Go := gok (prog := prog) (w := w) (fd := fd) (cl := cl) (cs := cs) KF X9 hg hbt
  have EO := ev_ok Wo (evfacts KF)
  refine tab_ok Wo Go EO (basic_ok Wo (fvfacts KF) (makefacts KF X9) KF.keep) (KFacts.fns (W := mkW prog w h₀ K mg mb fd cl cs) KF X9 rfl) (fun k T TO df hdf => ?_) (fun k T TO df hdf => ?_) k
  · obtain rfl := df_eq hdf
    intro s t g v σ σ' hgr h
    exact ⟨by rw [join_def.1]; rfl, join_run Wo Go TO EO join_body join_def.1 join_def.2.1 join_def.2.2.1 join_def.2.2.2 hgr h⟩
  · obtain rfl := df_eq hdf
    intro cs wide v σ σ' h
    exact ⟨by rw [draw_def.1]; rfl, draw_run Wo Go TO EO draw_body draw_def.1 draw_def.2 h⟩
end

theorem law_rest {prog : Program} {w : World} {K : Frag} {h₀ : Heap} {mg mb : Str → Option Value} {L : Addr} {s : Shared} {m : Str → Option Value} {news : List (Addr × Obj)} {c1 c2 d D : Addr} {of_ on_ od : Obj} {ys : List Value} {ns : List Int} {t : Tok} {env : Env} {A : Around} {stmts : List Stmt}
    {Q : Flow → Shared → Prop} {E : Value → Shared → Prop} {w2 : Option Value} {σ' : Nat} (KF : KFacts K) (X9 : K.In h₀) (hg : h₀.Ns mainGlobals mg) (hb : h₀.Ns builtinsNs mb) (hl : h₀.NoLimit) (hbt : ∀ x : Str, x ≠ "__name__" → mb x = bootBuiltins x) (F : Fr h₀ L s.heap m) (N : News h₀ L s.heap news)
    (n1 : (D, ({ cls := .type "list", data := .seq ys.toArray ys.length } : Obj)) ∈ news) (n2 : (d, od) ∈ news) (n3 : (c2, on_) ∈ news) (n4 : (c1, of_) ∈ news) (d1 : of_.data = .cell (some (.ref d))) (d2 : on_.data = .cell w2) (d3 : od.IsDictOf (PySem.strKind prog w) [(("cells" : Str), Value.ref D), (("spot" : Str), Value.int 0 t)]) (hI : IntsAre ys ns)
    (h12 : c1 ≠ c2) (h1d : c1 ≠ d) (h2d : c2 ≠ d) (hdD : d ≠ D) (h1D : c1 ≠ D) (h2D : c2 ≠ D)
    (e1 : env.scope.kind = .function) (e2 : env.globals = mainGlobals) (e3 : env.builtins = builtinsNs) (e4 : env.locals = L) (e5 : env.cells = [(("n" : Str), c2), (("feed" : Str), c1)]) (e6 : ∀ x, env.kindOf x = lawD.names.lookup x) (hst : stmts = lawD.body.drop 1) (hR : Room 9 A)
    (hrun : exs (tab DEFS 7) glob FUEL lawD.names (lawD.body.drop 1) [(("feed" : Str), .feed ns)] 0 = some (.ret (.d (.bool true)), σ'))
    (hQ : ∀ h' tk, (∀ b o, h₀.get? b = some o → h'.get? b = some o) → Q (.ret (.bool true)) { s with heap := h', toks := tk }) : wpAny (model prog w) A (execs stmts env) Q E s := by
  obtain ⟨g1, l1, b1⟩ := N _ n1
  obtain ⟨g2, l2, b2⟩ := N _ n2
  obtain ⟨g3, l3, b3⟩ := N _ n3
  obtain ⟨g4, l4, b4⟩ := N _ n4
  have bL : h₀.get? L = none := get_end _ F.above
  have gL : ∃ o, s.heap.get? L = some o := let ⟨o, _, _, ho, _⟩ := F.ns; ⟨o, ho⟩
  have Wo := wdok (prog := prog) (w := w) (fd := d) (cl := D) (cs := ns) KF X9 hg hb hl
  have Go := gok (prog := prog) (w := w) (fd := d) (cl := D) (cs := ns) KF X9 hg hbt
  have EO := ev_ok Wo (evfacts KF)
  have TO := tabs (prog := prog) (w := w) (fd := d) (cl := D) (cs := ns) KF X9 hg hb hl hbt 7
  have look : ∀ x c, env.cells.lookup x = some c → (x = ("n" : Str) ∧ c = c2) ∨ (x = ("feed" : Str) ∧ c = c1) := fun x c e => by
    rw [e5, List.lookup_cons] at e
    split at e
    · rename_i q
      cases e
      exact .inl ⟨eq_of_beq q, rfl⟩
    · rw [List.lookup_cons] at e
      split at e
      · rename_i q
        cases e
        exact .inr ⟨eq_of_beq q, rfl⟩
      · cases e
  have hnf : (("feed" : Str) == ("n" : Str)) = false := by decide
  have lkn : env.cells.lookup ("n" : Str) = some c2 := by rw [e5]; rfl
  have lkf : env.cells.lookup ("feed" : Str) = some c1 := by rw [e5]; rfl
  have O : EnvOK (mkW prog w h₀ K mg mb d D ns) lawD.names env := {
    kind := e1
    glob := e2
    blt := e3
    loc := fun x hx => (e6 x).trans hx
    gl := fun x hx => (e6 x).trans hx
    celS := fun x hx => (e6 x).trans hx
    cel := fun x hx => absurd rfl (law_named x _ hx).1
    noD := fun x k hx => (law_named x k hx).2.1
    noC := fun x k hx => (law_named x k hx).2.2
    inj := fun x y c hx hy => by
      rcases look x c hx with ⟨rfl, rfl⟩ | ⟨rfl, rfl⟩
      · rcases look y c hy with ⟨rfl, _⟩ | ⟨_, e⟩
        · rfl
        · exact absurd e.symm h12
      · rcases look y c hy with ⟨_, e⟩ | ⟨rfl, _⟩
        · exact absurd e h12
        · rfl
    apart := fun x c hx => by
      rw [e4]
      rcases look x c hx with ⟨_, rfl⟩ | ⟨_, rfl⟩
      · exact l3
      · exact l4
    fdL := by rw [e4]; exact l2.symm
    fdC := fun x c hx => by
      rcases look x c hx with ⟨_, rfl⟩ | ⟨_, rfl⟩
      · exact h2d
      · exact h1d }
  have hX : ∀ b, (b = L ∨ b = c1 ∨ b = c2 ∨ b = d) → (∃ o, s.heap.get? b = some o) ∧ h₀.get? b = none := by
    rintro b (rfl | rfl | rfl | rfl)
    · exact ⟨gL, bL⟩
    · exact ⟨⟨_, g4⟩, b4⟩
    · exact ⟨⟨_, g3⟩, b3⟩
    · exact ⟨⟨_, g2⟩, b2⟩
  have own : ∀ b, Own env b → (b = L ∨ b = c1 ∨ b = c2 ∨ b = d) := by
    rintro b (rfl | ⟨x, hx⟩)
    · exact .inl e4
    · rcases look x b hx with ⟨_, rfl⟩ | ⟨_, rfl⟩
      · exact .inr (.inr (.inl rfl))
      · exact .inr (.inl rfl)
  have S : St (mkW prog w h₀ K mg mb d D ns) (fun b => b = L ∨ b = c1 ∨ b = c2 ∨ b = d) lawD.names env [(("feed" : Str), .feed ns)] 0 s.heap := {
    x := ⟨fun b hb => (hX b hb).1, fun b hb => (hX b hb).2, .inr (.inr (.inr rfl)), fun q => by
      rcases q with q | q | q | q
      · exact l1 q
      · exact h1D q.symm
      · exact h2D q.symm
      · exact hdD q.symm⟩
    i := ⟨F.keep, ⟨⟨t, Heap.dictOf_iff.mpr ⟨od, g2, d3⟩⟩, _, _, _, g1, rfl, rfl, rfl, ints_of hI⟩, ⟨_, g2⟩, ⟨_, g1⟩⟩
    l := {
      ns := ⟨m, by rw [e4]; exact F.ns, fun x v hv hx => by
        rw [List.lookup_cons] at hv
        split at hv
        · rename_i q
          rw [eq_of_beq q, feed_cell] at hx
          cases hx
        · cases hv⟩
      cell := fun y hy => by
        rcases law_cells y hy with rfl | rfl
        · refine ⟨c1, _, lkf, ⟨_, g4, d1⟩, fun v hv => ?_⟩
          rw [List.lookup_cons] at hv
          simp only [beq_self_eq_true] at hv
          cases hv
          exact ⟨_, rfl, rfl, rfl⟩
        · refine ⟨c2, _, lkn, ⟨_, g3, d2⟩, fun v hv => ?_⟩
          rw [List.lookup_cons] at hv
          have : (("n" : Str) == ("feed" : Str)) = false := by decide
          rw [this] at hv
          cases hv
      own := own } }
  subst hst
  refine (stm_sound Wo Go TO EO FUEL).2 lawD.names (lawD.body.drop 1) _ 0 _ σ' hrun env A _ E s Q O hR S fun u h' tk kf i r => ?_
  cases r
  exact hQ h' tk i.base
end Mine
namespace Mine
theorem good_true {c : ClaimW} {cl : Str → Option Addr} {mean : ExcName → Option Value} {args : List WData} {s₁ s' : Shared} (hn : ∀ cls, c.raises args cls = false) (hp : c.post args (.bool true) args = true) (hk : ∀ b o, s₁.heap.get? b = some o → s'.heap.get? b = some o)
    (hos : s'.os = s₁.os) (hg : s'.gens = #[]) : GoodW c cl mean args s₁ (.ok (.ret (.bool true))) s' :=
  ⟨.inl ⟨_, .bool true, [], rfl, hn, .bool true, hp, fun _ => ⟨.nil, fun _ h => nomatch h⟩⟩, hk, hos, hg⟩
theorem law_rest2 {prog : Program} {w : World} {K : Frag} {h₀ : Heap} {mg mb : Str → Option Value} {s : Shared} {m : Str → Option Value} {d D D2 : Addr} {of_ on_ od o2 : Obj} {ys : List Value} {ns : List Int} {t : Tok} {env : Env} {A : Around} {stmts : List Stmt}
    {Q : Flow → Shared → Prop} {E : Value → Shared → Prop} {w2 : Option Value} (hst : stmts = lawD.body.drop 1) (KF : KFacts K) (X9 : K.In h₀) (hg : h₀.Ns mainGlobals mg) (hb : h₀.Ns builtinsNs mb) (hl : h₀.NoLimit) (hbt : ∀ x : Str, x ≠ "__name__" → mb x = bootBuiltins x) (F : Fr h₀ h₀.objs.size s.heap m)
    (N : News h₀ h₀.objs.size s.heap [(D, ({ cls := .type "list", data := .seq ys.toArray ys.length } : Obj)), (D2, o2), (d, od), (h₀.objs.size + 1 + 1, on_), (h₀.objs.size + 1, of_)])
    (d1 : of_.data = .cell (some (.ref d))) (d2 : on_.data = .cell w2) (d3 : od.IsDictOf (PySem.strKind prog w) [(("cells" : Str), Value.ref D), (("spot" : Str), Value.int 0 t)]) (hI : IntsAre ys ns) (hlen : ns.length < 64)
    (q1 : h₀.objs.size + 1 + 1 < d ∧ h₀.objs.size + 1 < d) (q2 : D2 ≠ D ∧ d ≠ D ∧ h₀.objs.size + 1 + 1 ≠ D ∧ h₀.objs.size + 1 ≠ D)
    (e1 : env.scope.kind = .function) (e2 : env.globals = mainGlobals) (e3 : env.builtins = builtinsNs) (e4 : env.locals = h₀.objs.size) (e5 : env.cells = [(("n" : Str), h₀.objs.size + 1 + 1), (("feed" : Str), h₀.objs.size + 1)]) (e6 : ∀ x, env.kindOf x = lawD.names.lookup x) (hR : Room 9 A)
    (runs : ∀ {cs : List Int}, cs.length < 64 → ∃ σ', exs (tab DEFS 7) glob FUEL lawD.names (lawD.body.drop 1) [(("feed" : Str), .feed cs)] 0 = some (.ret (.d (.bool true)), σ'))
    (hQ : ∀ h' tk, (∀ b o, h₀.get? b = some o → h'.get? b = some o) → Q (.ret (.bool true)) { s with heap := h', toks := tk }) : wpAny (model prog w) A (execs stmts env) Q E s := by
  obtain ⟨σ', hrun⟩ := runs hlen
  exact law_rest KF X9 hg hb hl hbt F N (.head _) (.tail _ (.tail _ (.head _))) (.tail _ (.tail _ (.tail _ (.head _)))) (.tail _ (.tail _ (.tail _ (.tail _ (.head _))))) d1 d2 d3 hI (Nat.ne_of_lt (Nat.lt_succ_self _)) (Nat.ne_of_lt q1.2) (Nat.ne_of_lt q1.1) q2.2.1 q2.2.2.2 q2.2.2.1 e1 e2 e3 e4 e5 e6 hst hR hrun hQ
end Mine
namespace Mine
end Mine
namespace Mine
theorem guard_rest2 {prog : Program} {w : World} {A : Around} {stmts : List Stmt} {env : Env} {Q : Flow → Shared → Prop} {E : Value → Shared → Prop} {s : Shared} {ps : List Str} {st : Stmt} {nm : Names} (hd : DEFS.lookup ("law" : Str) = some ⟨ps, st :: stmts, nm⟩) (h : wpAny (model prog w) A (execs (lawD.body.drop 1) env) Q E s) : wpAny (model prog w) A (execs stmts env) Q E s := by
  have e : stmts = lawD.body.drop 1 := by unfold lawD; rw [hd]; rfl
  rw [e]; exact h
end Mine

end

section
open PySem PySem.W
namespace Mine


/-! ## rows and relations in plain lists -/
abbrev Row := List Int
noncomputable def inU (n m : Nat) (r : Row) : Prop := r.length = m ∧ ∀ x ∈ r, 0 ≤ x ∧ x < n
noncomputable def U (n m : Nat) (l : List Row) : Prop := ∀ r ∈ l, inU n m r
structure Rl (n m : Nat) (s : List Row) : Prop where
  u : U n m s
  so : s.Pairwise (fun a b => lexLt a b = true)

noncomputable def hd (r : Row) : Int := r.headD 0
noncomputable def lst (r : Row) : Int := r.getLastD 0

noncomputable def dedupR : List Row → List Row → List Row
  | acc, [] => acc
  | acc, d :: ds => if d ∈ acc then dedupR acc ds else dedupR (acc ++ [d]) ds
noncomputable def pset (l : List Row) : List Row := sortR (dedupR [] l)
noncomputable def allR (n : Nat) : Nat → List Row
  | 0 => [[]]
  | m + 1 => (allR n m).flatMap fun r => (List.range n).map fun (a : Nat) => r ++ [(a : Int)]

theorem row_eqv (a b : Row) : D.eqv (rowD a) (rowD b) = decide (a = b) := by
  unfold rowD
  rw [eqv_t]
  induction a generalizing b with
  | nil => cases b <;> simp [eqvs_nn, eqvs_nc]
  | cons x a ih =>
    cases b with
    | nil => simp [eqvs_cn]
    | cons y b =>
      simp only [List.map_cons, eqvs_cc, ih, eqv_i, List.cons.injEq]
      by_cases h : x = y
      · subst h; simp
      · simp [h]
theorem any_eqv (l : List Row) (r : Row) : (l.map rowD).any (fun d => d.eqv (rowD r)) = decide (r ∈ l) := by
  induction l with
  | nil => simp
  | cons a l ih =>
    rw [List.map_cons, List.any_cons, ih, row_eqv]
    by_cases h : a = r
    · subst h; simp
    · have : ¬ r = a := fun e => h e.symm
      simp [h, this]
theorem dedup_D : ∀ (l acc : List Row), dedup (acc.map rowD) (l.map rowD) = (dedupR acc l).map rowD
  | [], acc => rfl
  | d :: l, acc => by
    rw [List.map_cons]
    unfold dedup dedupR
    rw [any_eqv]
    by_cases h : d ∈ acc
    · rw [if_pos (by simpa using h), if_pos h, dedup_D l acc]
    · rw [if_neg (by simpa using h), if_neg h, ← dedup_D l (acc ++ [d])]
      simp
theorem mem_dedupR (r : Row) : ∀ (l acc : List Row), r ∈ dedupR acc l ↔ r ∈ acc ∨ r ∈ l
  | [], acc => by simp [dedupR]
  | d :: l, acc => by
    unfold dedupR
    split
    · rename_i h
      rw [mem_dedupR r l acc, List.mem_cons]
      constructor
      · rintro (q | q)
        · exact .inl q
        · exact .inr (.inr q)
      · rintro (q | rfl | q)
        · exact .inl q
        · exact .inl h
        · exact .inr q
    · rw [mem_dedupR r l (acc ++ [d])]
      simp only [List.mem_append, List.mem_cons, List.not_mem_nil, or_false, or_assoc, false_or]
theorem nodup_dedupR : ∀ (l acc : List Row), acc.Nodup → (dedupR acc l).Nodup
  | [], acc, h => h
  | d :: l, acc, h => by
    unfold dedupR
    split
    · exact nodup_dedupR l acc h
    · rename_i q
      refine nodup_dedupR l _ ?_
      rw [List.nodup_append]
      exact ⟨h, by simp, fun a ha b hb e => by rw [List.mem_singleton] at hb; subst hb; subst e; exact q ha⟩

theorem mem_pset (r : Row) (l : List Row) : r ∈ pset l ↔ r ∈ l := by
  unfold pset
  rw [(sortR_perm _).mem_iff, mem_dedupR]
  simp
theorem so_pset (l : List Row) : (pset l).Pairwise (fun a b => lexLt a b = true) := sortR_sorted _ (nodup_dedupR l [] List.nodup_nil)
theorem so_nodup {l : List Row} (h : l.Pairwise (fun a b => lexLt a b = true)) : l.Nodup := by
  refine h.imp fun {a b} q e => ?_
  subst e
  rw [lex_irr] at q; cases q
theorem so_ext {l1 l2 : List Row} (h1 : l1.Pairwise (fun a b => lexLt a b = true)) (h2 : l2.Pairwise (fun a b => lexLt a b = true)) (h : ∀ r, r ∈ l1 ↔ r ∈ l2) : l1 = l2 :=
  sorted_uniq _ _ ((List.perm_ext_iff_of_nodup (so_nodup h1) (so_nodup h2)).mpr h) h1 h2
theorem so_filter {l : List Row} (h : l.Pairwise (fun a b => lexLt a b = true)) (p : Row → Bool) : (l.filter p).Pairwise (fun a b => lexLt a b = true) := h.filter p

theorem nodup_le : ∀ (l L : List Row), l.Nodup → (∀ r ∈ l, r ∈ L) → l.length ≤ L.length
  | [], _, _, _ => Nat.zero_le _
  | a :: l, L, hn, hs => by
    rw [List.nodup_cons] at hn
    have ha := hs a List.mem_cons_self
    have h1 := nodup_le l (L.erase a) hn.2 fun r hr => by
      have : r ≠ a := fun e => hn.1 (e ▸ hr)
      exact (List.mem_erase_of_ne this).mpr (hs r (List.mem_cons_of_mem _ hr))
    rw [List.length_erase_of_mem ha] at h1
    have : 0 < L.length := List.length_pos_of_mem ha
    simp only [List.length_cons]
    omega

theorem mem_allR (n : Nat) : ∀ (m : Nat) (r : Row), r ∈ allR n m ↔ inU n m r
  | 0, r => by
    simp only [allR, List.mem_singleton, inU]
    constructor
    · rintro rfl; simp
    · intro h; exact List.length_eq_zero_iff.mp h.1
  | m + 1, r => by
    simp only [allR, List.mem_flatMap, List.mem_map, List.mem_range]
    constructor
    · rintro ⟨r', h1, a, ha, rfl⟩
      have := (mem_allR n m r').mp h1
      refine ⟨by simp [this.1], fun x hx => ?_⟩
      rcases List.mem_append.mp hx with q | q
      · exact this.2 x q
      · rw [List.mem_singleton] at q; subst q; omega
    · intro h
      have hne : r ≠ [] := by rintro rfl; simp [inU] at h
      refine ⟨r.dropLast, (mem_allR n m _).mpr ⟨by simp [h.1], fun x hx => h.2 x ((List.dropLast_sublist r).subset hx)⟩, (r.getLast hne).toNat, ?_, ?_⟩
      · have := h.2 _ (List.getLast_mem hne); omega
      · have := h.2 _ (List.getLast_mem hne)
        rw [Int.toNat_of_nonneg this.1]
        exact List.dropLast_concat_getLast hne
theorem len_allR (n : Nat) : ∀ m, (allR n m).length = n ^ m
  | 0 => rfl
  | m + 1 => by
    simp only [allR, List.length_flatMap, List.length_map, List.length_range, List.map_const', List.sum_replicate_nat, len_allR n m]
    rw [Nat.pow_succ]
theorem U.len {n m : Nat} {l : List Row} (h : U n m l) (hn : l.Nodup) : l.length ≤ n ^ m := by
  rw [← len_allR n m]
  exact nodup_le _ _ hn fun r hr => (mem_allR n m r).mpr (h r hr)
theorem pow_le {n m : Nat} (hn : n ≤ 3) (hm : m ≤ 3) : n ^ m ≤ 27 := by
  have h1 : n ^ m ≤ 3 ^ m := Nat.pow_le_pow_left hn m
  have h2 : 3 ^ m ≤ 3 ^ 3 := Nat.pow_le_pow_right (by omega) hm
  omega
theorem Rl.len {n m : Nat} {s : List Row} (h : Rl n m s) (hn : n ≤ 3) (hm : m ≤ 3) : s.length ≤ 27 := Nat.le_trans (h.u.len (so_nodup h.so)) (pow_le hn hm)
theorem U.dedup {n m : Nat} {l : List Row} (h : U n m l) (hn : n ≤ 3) (hm : m ≤ 3) : (dedupR [] l).length ≤ 27 :=
  Nat.le_trans (U.len (fun r hr => h r (by simpa using (mem_dedupR r l []).mp hr)) (nodup_dedupR l [] List.nodup_nil)) (pow_le hn hm)
theorem U.app {n m : Nat} {s t : List Row} (hs : U n m s) (ht : U n m t) : U n m (s ++ t) := fun r hr => (List.mem_append.mp hr).elim (hs r) (ht r)
theorem U.filter {n m : Nat} {s : List Row} (hs : U n m s) (p : Row → Bool) : U n m (s.filter p) := fun r hr => hs r (List.mem_filter.mp hr).1
theorem U.pset {n m : Nat} {l : List Row} (h : U n m l) : Rl n m (pset l) := ⟨fun r hr => h r ((mem_pset r l).mp hr), so_pset l⟩

/-! ## the operations -/
noncomputable def punion (s t : List Row) : List Row := pset (s ++ t)
noncomputable def pmeet (s t : List Row) : List Row := s.filter fun x => decide (x ∈ t)
noncomputable def pminus (s t : List Row) : List Row := s.filter fun x => !decide (x ∈ t)
noncomputable def pproduct (s t : List Row) : List Row := s.flatMap fun o => t.map fun l => o ++ l
noncomputable def pjoin (s t : List Row) : List Row := pset (s.flatMap fun o => (t.filter fun l => decide (hd l = lst o)).map fun l => o.take (o.length - 1) ++ l.drop 1)
noncomputable def poverride (s t : List Row) : List Row := pset (t ++ s.filter fun o => !decide (hd o ∈ t.map hd))
noncomputable def pahead (s r : List Row) : List Row := r.filter fun x => decide (x.take 1 ∈ s)
noncomputable def pbehind (r s : List Row) : List Row := r.filter fun x => decide (x.drop (x.length - 1) ∈ s)

theorem mem_punion (r : Row) (s t : List Row) : r ∈ punion s t ↔ r ∈ s ∨ r ∈ t := by unfold punion; rw [mem_pset, List.mem_append]
theorem mem_pmeet (r : Row) (s t : List Row) : r ∈ pmeet s t ↔ r ∈ s ∧ r ∈ t := by unfold pmeet; rw [List.mem_filter]; simp
theorem mem_pminus (r : Row) (s t : List Row) : r ∈ pminus s t ↔ r ∈ s ∧ r ∉ t := by unfold pminus; rw [List.mem_filter]; simp
theorem mem_pproduct (r : Row) (s t : List Row) : r ∈ pproduct s t ↔ ∃ o ∈ s, ∃ l ∈ t, r = o ++ l := by
  unfold pproduct
  simp only [List.mem_flatMap, List.mem_map]
  constructor
  · rintro ⟨o, ho, l, hl, rfl⟩; exact ⟨o, ho, l, hl, rfl⟩
  · rintro ⟨o, ho, l, hl, rfl⟩; exact ⟨o, ho, l, hl, rfl⟩
theorem mem_pjoin (r : Row) (s t : List Row) : r ∈ pjoin s t ↔ ∃ o ∈ s, ∃ l ∈ t, hd l = lst o ∧ r = o.take (o.length - 1) ++ l.drop 1 := by
  unfold pjoin
  rw [mem_pset]
  simp only [List.mem_flatMap, List.mem_map, List.mem_filter, decide_eq_true_eq]
  constructor
  · rintro ⟨o, ho, l, ⟨hl, e⟩, rfl⟩; exact ⟨o, ho, l, hl, e, rfl⟩
  · rintro ⟨o, ho, l, hl, e, rfl⟩; exact ⟨o, ho, l, ⟨hl, e⟩, rfl⟩
theorem mem_poverride (r : Row) (s t : List Row) : r ∈ poverride s t ↔ r ∈ t ∨ r ∈ s ∧ ∀ l ∈ t, hd l ≠ hd r := by
  unfold poverride
  rw [mem_pset, List.mem_append, List.mem_filter]
  simp
theorem mem_pahead (r : Row) (s t : List Row) : r ∈ pahead s t ↔ r ∈ t ∧ r.take 1 ∈ s := by unfold pahead; rw [List.mem_filter]; simp
theorem mem_pbehind (r : Row) (s t : List Row) : r ∈ pbehind s t ↔ r ∈ s ∧ r.drop (r.length - 1) ∈ t := by unfold pbehind; rw [List.mem_filter]; simp



theorem row_isRow (r : Row) : isRow (rowD r) = true := by
  simp [rowD, isRow]
theorem rows_isRow (l : List Row) : (l.map rowD).all isRow = true := by
  rw [List.all_map, List.all_eq_true]
  exact fun r _ => row_isRow r
theorem rows_isRow1 {l : List Row} (h : ∀ r ∈ l, r ≠ []) : (l.map rowD).all isRow1 = true := by
  rw [List.all_map, List.all_eq_true]
  intro r hr
  show isRow1 (rowD r) = true
  unfold isRow1
  rw [row_isRow]
  cases r with
  | nil => exact absurd rfl (h _ hr)
  | cons x r => rfl
theorem ints_simple (n : Nat) (r : Row) : D.simples n (r.map .int) = true := by
  induction r with
  | nil => cases n <;> rfl
  | cons x r ih => cases n <;> exact ih
theorem row_simple (n : Nat) (r : Row) : D.simple (n + 1) (rowD r) = true := by
  unfold rowD
  exact ints_simple n r
theorem rows_simple (n : Nat) (l : List Row) : D.simples (n + 1) (l.map rowD) = true := by
  induction l with
  | nil => rfl
  | cons r l ih => rw [List.map_cons, simples_c, row_simple, ih]; rfl

theorem dict_rows {l : List Row} {k σ : Nat} : tab DEFS k "dict" [.d (.list (l.flatMap fun x => [D.tup [rowD x, .bool true]]))] σ = some (.keys ((dedupR [] l).map rowD), σ) := by
  refine tab_basic ?_ k
  have e1 : (l.flatMap fun x => [D.tup [rowD x, .bool true]]) = l.map fun x => D.tup [rowD x, .bool true] := by
    induction l with
    | nil => rfl
    | cons a l ih => rw [List.flatMap_cons, ih]; rfl
  have e2 : (l.map fun x => D.tup [rowD x, .bool true]).mapM pairKey? = some (l.map rowD) := by
    clear e1
    induction l with
    | nil => rfl
    | cons a l ih => rw [List.map_cons, List.mapM_cons, ih]; rfl
  show (List.mapM pairKey? _).bind _ = _
  rw [e1, e2]
  simp only [Option.bind_some]
  rw [if_pos (by rw [rows_isRow]; rfl)]
  have := dedup_D l []
  rw [List.map_nil] at this
  rw [this]
theorem q_in {l : List Row} {x : Row} : cmpV .In (.d (rowD x)) (.keys ((dedupR [] l).map rowD)) = some (decide (x ∈ l)) := by
  show (if _ then _ else _) = _
  rw [if_pos (by rw [row_isRow, rows_isRow]; rfl), any_eqv]
  simp [mem_dedupR]
theorem q_notin {l : List Row} {x : Row} : cmpV .NotIn (.d (rowD x)) (.keys ((dedupR [] l).map rowD)) = some (!decide (x ∈ l)) := by
  show (if _ then _ else _) = _
  rw [if_pos (by rw [row_isRow, rows_isRow]; rfl), any_eqv]
  simp [mem_dedupR]
theorem q_tin {l : List Row} {x : Row} : cmpV .In (.d (rowD x)) (.d (.tup (l.map rowD))) = some (decide (x ∈ l)) := by
  show (if _ then _ else _) = _
  rw [if_pos (by rw [row_simple, rows_simple]; rfl), any_eqv]
theorem sorted_rows {l : List Row} {k σ : Nat} (hne : ∀ r ∈ l, r ≠ []) (hl : l.length < 64) : tab DEFS k "sorted" [.keys (l.map rowD)] σ = some (.d (.list ((sortR l).map rowD)), σ) := by
  refine tab_basic ?_ k
  show (if ((l.map rowD).all isRow1 && decide ((l.map rowD).length < 64)) = true then some (V.d (.list (sortRows (l.map rowD))), σ) else none) = _
  rw [if_pos (by rw [rows_isRow1 hne, List.length_map]; simpa using hl)]
  have := sortR_D l
  unfold rowsD at this
  rw [this]
theorem flat_if {α : Type} {l : List α} {c : α → Bool} {f : α → D} : (l.flatMap fun x => if c x then [f x] else []) = (l.filter c).map f := by
  induction l with
  | nil => rfl
  | cons a l ih =>
    rw [List.flatMap_cons, ih]
    by_cases h : c a = true
    · rw [if_pos h, List.filter_cons_of_pos h]; rfl
    · rw [if_neg h, List.filter_cons_of_neg h]; rfl
theorem flat_one {α : Type} {l : List α} {f : α → D} : (l.flatMap fun x => [f x]) = l.map f := by
  induction l with
  | nil => rfl
  | cons a l ih => rw [List.flatMap_cons, ih]; rfl

theorem p_nil : Rho.plain? [] = some [] := rfl
theorem p_cons {d : D} {vs : List V} {ds : List D} (h : Rho.plain? vs = some ds) : Rho.plain? (.d d :: vs) = some (d :: ds) := by
  exact bto rfl (bto h rfl)
theorem lim_one {α : Type} {l : List α} {f : α → D} (h : l.length < LIM) : (l.flatMap fun x => [f x]).length < LIM := by
  rw [flat_one, List.length_map]; exact h
theorem lim_if {α : Type} {l : List α} {c : α → Bool} {f : α → D} (h : l.length < LIM) : (l.flatMap fun x => if c x then [f x] else []).length < LIM := by
  rw [flat_if, List.length_map]
  exact Nat.lt_of_le_of_lt (List.length_filter_le _ _) h
theorem lim_lit {a : D} {l : List D} (h : l.length < 15) : (a :: l).length < LIM := by
  unfold LIM
  simp only [List.length_cons]
  omega

theorem dedup_ints : ∀ (l acc : List D), (∀ d ∈ acc ++ l, isInt d = true) → (∀ d ∈ dedup acc l, isInt d = true) ∧ ∀ i, (dedup acc l).any (fun d => d.eqv (.int i)) = (acc ++ l).any (fun d => d.eqv (.int i))
  | [], acc, h => ⟨by simpa [dedup] using h, fun i => by simp [dedup]⟩
  | d :: l, acc, h => by
    unfold dedup
    split
    · rename_i q
      obtain ⟨h1, h2⟩ := dedup_ints l acc fun e he => h e (by simp only [List.mem_append, List.mem_cons] at he ⊢; rcases he with z | z; exact .inl z; exact .inr (.inr z))
      refine ⟨h1, fun i => ?_⟩
      rw [h2, List.any_append, List.any_append, List.any_cons]
      cases hd : d.eqv (.int i)
      · simp
      · rw [List.any_eq_true] at q
        obtain ⟨a, ha, hq⟩ := q
        have hai := h a (by simp [ha])
        have hdi := h d (by simp)
        have : acc.any (fun d => d.eqv (.int i)) = true := by
          rw [List.any_eq_true]
          refine ⟨a, ha, ?_⟩
          cases a <;> first | exact absurd hai Bool.false_ne_true | skip
          cases d <;> first | exact absurd hdi Bool.false_ne_true | skip
          simp only [eqv_i, beq_iff_eq] at hd hq ⊢
          exact hq.trans hd
        simp [this]
    · obtain ⟨h1, h2⟩ := dedup_ints l (acc ++ [d]) fun e he => h e (by simpa using he)
      refine ⟨h1, fun i => ?_⟩
      rw [h2]
      simp
theorem dict_ints {l : List Row} {k σ : Nat} : tab DEFS k "dict" [.d (.list (l.flatMap fun x => [D.tup [.int (hd x), .bool true]]))] σ = some (.keys (dedup [] (l.map fun x => .int (hd x))), σ) := by
  refine tab_basic ?_ k
  have e1 : (l.flatMap fun x => [D.tup [.int (hd x), .bool true]]) = l.map fun x => D.tup [.int (hd x), .bool true] := by
    induction l with
    | nil => rfl
    | cons a l ih => rw [List.flatMap_cons, ih]; rfl
  have e2 : (l.map fun x => D.tup [.int (hd x), .bool true]).mapM pairKey? = some (l.map fun x => .int (hd x)) := by
    clear e1
    induction l with
    | nil => rfl
    | cons a l ih => rw [List.map_cons, List.mapM_cons, ih]; rfl
  show (List.mapM pairKey? _).bind _ = _
  rw [e1, e2]
  simp only [Option.bind_some]
  rw [if_pos]
  have : (l.map fun x => D.int (hd x)).all isInt = true := by rw [List.all_map]; simp [isInt]
  rw [this, Bool.or_true]
theorem q_notin_int {l : List Row} {i : Int} : cmpV .NotIn (.d (.int i)) (.keys (dedup [] (l.map fun x => .int (hd x)))) = some (!decide (i ∈ l.map hd)) := by
  have h0 : ∀ d ∈ [] ++ l.map (fun x => D.int (hd x)), isInt d = true := fun d hd => by
    obtain ⟨x, _, rfl⟩ := List.mem_map.mp (by simpa using hd)
    rfl
  obtain ⟨h1, h2⟩ := dedup_ints _ _ h0
  show (if _ then _ else _) = _
  rw [if_pos (by rw [show isInt (.int i) = true from rfl, List.all_eq_true.mpr h1]; simp), h2]
  congr 2
  rw [List.nil_append]
  clear h1 h2 h0
  induction l with
  | nil => simp
  | cons a l ih =>
    rw [List.map_cons, List.any_cons, ih, List.map_cons]
    by_cases e : hd a = i
    · subst e; simp [eqv_i]
    · have : ¬ i = hd a := fun z => e z.symm
      simp [eqv_i, e, this]
theorem cut_1 (x : Row) : cut (x.map D.int) none (some 1) = (x.take 1).map D.int := by
  unfold cut clampTo
  simp only [List.length_map, List.drop_zero]
  rw [if_neg (by omega), ← List.map_take]
  congr 1
  cases x with
  | nil => rfl
  | cons a x => simp [Nat.min_def]
theorem cut_l (x : Row) : cut (x.map D.int) (some (-1)) none = (x.drop (x.length - 1)).map D.int := by
  unfold cut clampTo
  simp only [List.length_map]
  rw [if_pos (by omega), List.take_of_length_le (by simp), ← List.map_drop]
  congr 2
  omega
theorem cut_i (x : Row) : cut (x.map D.int) none (some (-1)) = (x.take (x.length - 1)).map D.int := by
  unfold cut clampTo
  simp only [List.length_map, List.drop_zero]
  rw [if_pos (by omega), ← List.map_take]
  congr 2
  omega
theorem q_in_cut1 {l : List Row} {x : Row} : cmpV .In (.d (.tup (cut (x.map D.int) none (some 1)))) (.keys ((dedupR [] l).map rowD)) = some (decide (x.take 1 ∈ l)) := by
  rw [cut_1]; exact q_in
theorem q_in_cutl {l : List Row} {x : Row} : cmpV .In (.d (.tup (cut (x.map D.int) (some (-1)) none))) (.keys ((dedupR [] l).map rowD)) = some (decide (x.drop (x.length - 1) ∈ l)) := by
  rw [cut_l]; exact q_in
theorem q_item0 {x : Row} {σ : Nat} (h : x ≠ []) : subV σ (.d (rowD x)) (.d (.int 0)) = some (.d (.int (hd x))) := by
  cases x with
  | nil => exact absurd rfl h
  | cons a x => rfl
theorem q_iteml {x : Row} {σ : Nat} (h : x ≠ []) : subV σ (.d (rowD x)) (.d (.int (-1))) = some (.d (.int (lst x))) := by
  show (itemAt (x.map D.int) (-1)).bind (fun d => some (V.d d)) = _
  have hl : 0 < x.length := List.length_pos_iff.mpr h
  unfold itemAt
  rw [if_neg (by omega), if_pos (by simp only [List.length_map]; omega)]
  have e : ((-1 : Int) + ((x.map D.int).length : Int)).toNat = x.length - 1 := by rw [List.length_map]; omega
  rw [e, List.getElem?_map]
  unfold lst
  rw [List.getLastD_eq_getLast?, List.getLast?_eq_getElem?]
  cases hx : x[x.length - 1]? with
  | none => rw [List.getElem?_eq_none_iff] at hx; omega
  | some v => rfl
theorem q_add {x y : Row} (h : x.length + y.length < LIM) : binD .Add (rowD x) (rowD y) = some (rowD (x ++ y)) := by
  show (if _ then _ else _) = _
  rw [if_pos (by simpa using h), ← List.map_append]
  rfl

local macro_rules | `(tactic| walk_at "tb") => `(tactic| first
  | (with_reducible first | exact tab_len_t | exact tab_len_l | exact tab_tuple))
local macro_rules | `(tactic| walk_at "ev1") => `(tactic| first
  | (with_reducible first | exact r_int | exact r_str | exact r_bool | exact r_neg | exact r_dict0 | exact r_evs0 | exact r_evO0 | exact r_tsts0 | exact s_nil) | ((with_reducible apply r_loc) <;> rfl) | ((with_reducible apply r_glob) <;> rfl) | ((with_reducible apply r_cell) <;> rfl) | ((with_reducible apply r_free) <;> rfl) | (with_reducible first | apply r_bin | apply r_not | apply r_cmp) | ((with_reducible apply r_fn); walk_at "ev1") | ((with_reducible apply r_meth); rfl) | ((with_reducible apply r_bound); rfl) | (with_reducible first | apply r_many | apply r_inst) | ((with_reducible apply r_attr); rfl; rfl; rfl) | with_reducible apply r_dictsub | ((with_reducible apply r_cut_t); rfl) | ((with_reducible apply r_item); rfl; rfl) | (with_reducible first | apply r_tup | apply r_list) | ((with_reducible apply r_comp); rfl) | ((with_reducible apply r_range); walk_at "ev1") | ((with_reducible apply r_enum); rfl; walk_at "ev1") | ((with_reducible apply r_get); rfl) | ((with_reducible apply r_iter); rfl) | (with_reducible first | apply r_evs1 | apply r_evO1 | apply r_evC0) | ((with_reducible apply r_evC1); rfl) | (with_reducible first | apply r_tsts1 | apply t_cmp | apply t_not | apply t_call) | ((with_reducible apply r_and); rotate_left; intros; rotate_right) | ((with_reducible apply r_or); rotate_left; intros; rotate_right) | ((with_reducible apply t_and); rotate_left; intros; rotate_right) | ((with_reducible apply t_or); rotate_left; intros; rotate_right) | (with_reducible first | exact c_nil | apply c_cons) | ((with_reducible apply c_map); intros) | ((with_reducible apply r_body0); rfl) | ((with_reducible apply r_body); rfl) | ((with_reducible apply s_if_t); (focus ((repeat (walk_at "ev1")); done))) | ((with_reducible apply s_if_f); (focus ((repeat (walk_at "ev1")); done))) | ((with_reducible apply r_if_t); (focus ((repeat (walk_at "ev1")); done))) | ((with_reducible apply r_if_f); (focus ((repeat (walk_at "ev1")); done))) | ((with_reducible apply s_assign); rfl) | ((with_reducible apply s_assign2); rfl) | with_reducible apply s_return | walk_at "tb" | ((with_reducible show iterV _ = some _); rfl) | ((with_reducible show cmpV _ _ _ = some _); first | rfl | decide +kernel) | ((with_reducible show binD _ _ _ = some _); rfl) | (with_reducible first | exact p_nil | apply p_cons) | ((with_reducible show bindT _ _ _ _ = some _); rfl) | ((with_reducible show subV _ _ _ = some _); rfl) | (with_reducible first | exact q_in | exact q_notin | exact q_tin | exact dict_rows | apply lim_one | apply lim_if) | ((with_reducible apply lim_lit); exact Nat.le_of_ble_eq_true rfl) | ((with_reducible show List.length _ < _); assumption) | (with_reducible first | exact dict_ints | exact q_notin_int | exact q_in_cut1 | exact q_in_cutl | apply q_item0 | apply q_iteml | apply q_add) | ((with_reducible show _ ≠ []); solve_by_elim) | walk_at "ev9" | walk_at "ev8" | intro)
local macro_rules | `(tactic| walk_at "ev") => `(tactic| repeat (walk_at "ev1"))

theorem tab_meet {k σ : Nat} {s t : List Row} (hs : s.length < LIM) (ht : t.length < LIM) : tab DEFS (k + 1) "meet" [.d (.tup (s.map rowD)), .d (.tup (t.map rowD))] σ = some (.d (.tup ((pmeet s t).map rowD)), σ) := by
  apply tab_def' rfl (by decide) (by decide) (by decide) rfl rfl
  · walk_at "ev"
  · rw [flat_if]; rfl
theorem tab_minus {k σ : Nat} {s t : List Row} (hs : s.length < LIM) (ht : t.length < LIM) : tab DEFS (k + 1) "minus" [.d (.tup (s.map rowD)), .d (.tup (t.map rowD))] σ = some (.d (.tup ((pminus s t).map rowD)), σ) := by
  apply tab_def' rfl (by decide) (by decide) (by decide) rfl rfl
  · walk_at "ev"
  · rw [flat_if]; rfl
theorem tab_set_of' {k σ : Nat} {l : List Row} (hne : ∀ r ∈ l, r ≠ []) (hd : (dedupR [] l).length < 64) (hl : l.length < LIM) : tab DEFS (k + 1) "set_of_sets" [.d (.tup (l.map rowD))] σ = some (.d (.tup ((pset l).map rowD)), σ) := by
  apply tab_def' rfl (by decide) (by decide) (by decide) rfl rfl
  · walk_at "ev"
    · exact sorted_rows (fun r hr => hne r (by simpa using (mem_dedupR r l []).mp hr)) hd
    walk_at "ev"
  · rfl
theorem add_rows {s t : List Row} (h : s.length + t.length < LIM) : binD .Add (.tup (s.map rowD)) (.tup (t.map rowD)) = some (.tup ((s ++ t).map rowD)) := by
  show (if _ then _ else _) = _
  rw [if_pos (by simpa using h), List.map_append]
theorem tab_union {k σ : Nat} {s t : List Row} (hne : ∀ r ∈ s ++ t, r ≠ []) (hd : (dedupR [] (s ++ t)).length < 64) (hl : s.length + t.length < LIM) : tab DEFS (k + 2) "union" [.d (.tup (s.map rowD)), .d (.tup (t.map rowD))] σ = some (.d (.tup ((punion s t).map rowD)), σ) := by
  apply tab_def' rfl (by decide) (by decide) (by decide) rfl rfl
  · walk_at "ev"
    · exact add_rows hl
    walk_at "ev"
    · exact tab_set_of' hne hd (by simpa using hl)
  · rfl
theorem tab_ahead {k σ : Nat} {s t : List Row} (hs : s.length < LIM) (ht : t.length < LIM) : tab DEFS (k + 1) "ahead" [.d (.tup (s.map rowD)), .d (.tup (t.map rowD))] σ = some (.d (.tup ((pahead s t).map rowD)), σ) := by
  apply tab_def' rfl (by decide) (by decide) (by decide) rfl rfl
  · walk_at "ev"
  · rw [flat_if]; rfl
theorem tab_behind {k σ : Nat} {s t : List Row} (hs : s.length < LIM) (ht : t.length < LIM) : tab DEFS (k + 1) "behind" [.d (.tup (s.map rowD)), .d (.tup (t.map rowD))] σ = some (.d (.tup ((pbehind s t).map rowD)), σ) := by
  apply tab_def' rfl (by decide) (by decide) (by decide) rfl rfl
  · walk_at "ev"
  · rw [flat_if]; rfl
theorem add_rows_if {s t : List Row} {c : Row → Bool} (h : t.length + s.length < LIM) : binD .Add (.tup (t.map rowD)) (.tup (s.flatMap fun x => if c x then [rowD x] else [])) = some (.tup ((t ++ s.filter c).map rowD)) := by
  rw [flat_if]
  refine add_rows ?_
  have := List.length_filter_le c s
  omega
theorem tab_override {k σ : Nat} {s t : List Row} (hs0 : ∀ r ∈ s, r ≠ []) (ht0 : ∀ r ∈ t, r ≠ []) (hs : s.length < LIM) (ht : t.length < LIM) (hl : t.length + s.length < LIM) (hd : (dedupR [] (t ++ s.filter fun o => !decide (hd o ∈ t.map hd))).length < 64) :
    tab DEFS (k + 2) "override" [.d (.tup (s.map rowD)), .d (.tup (t.map rowD))] σ = some (.d (.tup ((poverride s t).map rowD)), σ) := by
  apply tab_def' rfl (by decide) (by decide) (by decide) rfl rfl
  · walk_at "ev"
    · exact add_rows_if hl
    walk_at "ev"
    refine tab_set_of' (fun r hr => (List.mem_append.mp hr).elim (ht0 r) fun q => hs0 r (List.mem_filter.mp q).1) hd ?_
    rw [List.length_append]
    exact Nat.lt_of_le_of_lt (Nat.add_le_add_left (List.length_filter_le _ s) _) hl
  · rfl
theorem mul_len {a b : Nat} (ha : a < 4096) (hb : b < 4096) : binD .Mult (.int a) (.int b) = some (.int ((a * b : Nat) : Int)) := by
  show (if _ then _ else _) = _
  rw [if_pos (by omega), Int.natCast_mul]
theorem flat_flat {s t : List Row} : (s.flatMap fun x => t.flatMap fun y => [rowD (x ++ y)]) = (pproduct s t).map rowD := by
  unfold pproduct
  rw [List.map_flatMap]
  congr 1
  funext x
  rw [flat_one, List.map_map]
  rfl
theorem len_pproduct (s t : List Row) : (pproduct s t).length = s.length * t.length := by
  unfold pproduct
  simp [List.length_flatMap, List.map_const', List.sum_replicate_nat]
theorem tab_product {k σ : Nat} {s t : List Row} (hs : s.length ≤ 27) (ht : t.length ≤ 27) (hs0 : ∀ r ∈ s, r.length ≤ 3) (ht0 : ∀ r ∈ t, r.length ≤ 3) : tab DEFS (k + 1) "product" [.d (.tup (s.map rowD)), .d (.tup (t.map rowD))] σ = some (.d (.tup ((pproduct s t).map rowD)), σ) := by
  have hst : s.length * t.length ≤ 27 * 27 := Nat.mul_le_mul hs ht
  apply tab_def' rfl (by decide) (by decide) (by decide) rfl rfl
  · apply s_if_f
    · walk_at "ev"
      · exact mul_len (by rw [List.length_map]; omega) (by rw [List.length_map]; omega)
      walk_at "ev"
      show some (decide _) = some false
      rw [List.length_map, List.length_map]
      congr 1
      rw [decide_eq_false_iff_not]
      omega
    walk_at "ev"
    · rename_i x hx y hy
      have h1 := hs0 _ hx
      have h2 := ht0 _ hy
      unfold LIM
      omega
    walk_at "ev"
    · rw [flat_flat, List.length_map, len_pproduct]; unfold LIM; omega
    walk_at "ev"
  · rw [flat_flat]



/-- the rows behind a first atom -/
noncomputable def behindOf (t : List Row) (i : Int) : List Row := (t.filter fun l => decide (hd l = i)).map fun l => l.drop 1
theorem map_lookup (i j : Int) (d : D) : ∀ g : List (Int × List D), (g.map fun p => if p.1 == i then (p.1, p.2 ++ [d]) else p).lookup j = (g.lookup j).map fun ds => if j = i then ds ++ [d] else ds
  | [] => rfl
  | (a, ds) :: g => by
    rw [List.map_cons]
    by_cases hj : j = a
    · subst hj
      by_cases ha : j = i
      · subst ha
        simp [List.lookup_cons]
      · have hb : (j == i) = false := by simpa using ha
        simp [List.lookup_cons, hb, ha]
    · have hc : (j == a) = false := by simpa using hj
      by_cases ha : a = i
      · subst ha
        simp only [beq_self_eq_true, if_true, List.lookup_cons, hc]
        exact map_lookup a j d g
      · have hb : (a == i) = false := by simpa using ha
        simp only [hb, Bool.false_eq_true, if_false, List.lookup_cons, hc]
        exact map_lookup i j d g
theorem any_lookup (i : Int) : ∀ g : List (Int × List D), g.any (fun p => p.1 == i) = (g.lookup i).isSome
  | [] => rfl
  | (a, ds) :: g => by
    rw [List.any_cons, List.lookup_cons, any_lookup i g]
    by_cases h : a = i
    · subst h; simp
    · have h1 : (a == i) = false := by simpa using h
      have h2 : (i == a) = false := by simpa using fun e : i = a => h e.symm
      simp [h1, h2]
theorem addG_lookup (g : List (Int × List D)) (i j : Int) (d : D) : ((addG g i d).lookup j).getD [] = if j = i then (g.lookup j).getD [] ++ [d] else (g.lookup j).getD [] := by
  unfold addG
  rw [any_lookup]
  cases hg : g.lookup i with
  | some ds =>
    simp only [Option.isSome_some, if_true]
    rw [map_lookup]
    by_cases hj : j = i
    · subst hj; simp [hg]
    · simp only [hj, if_false]
      cases g.lookup j <;> rfl
  | none =>
    simp only [Option.isSome_none, Bool.false_eq_true, if_false]
    rw [List.lookup_append]
    by_cases hj : j = i
    · subst hj; simp [hg]
    · have hb : (j == i) = false := by simpa using hj
      rw [if_neg hj]
      simp [List.lookup_cons, hb]
theorem group_rows : ∀ (t : List Row) (g : List (Int × List D)), (∀ r ∈ t, r ≠ []) → ∃ g', groupFrom (t.map rowD) g = some g' ∧ ∀ j, (g'.lookup j).getD [] = (g.lookup j).getD [] ++ (behindOf t j).map rowD
  | [], g, _ => ⟨g, rfl, fun j => by simp [behindOf]⟩
  | r :: t, g, h => by
    cases r with
    | nil => exact absurd rfl (h [] List.mem_cons_self)
    | cons i r =>
      obtain ⟨g', h1, h2⟩ := group_rows t (addG g i (rowD r)) fun r hr => h r (List.mem_cons_of_mem _ hr)
      refine ⟨g', h1, fun j => ?_⟩
      rw [h2, addG_lookup]
      unfold behindOf
      by_cases hj : j = i
      · subst hj
        rw [if_pos rfl, List.filter_cons_of_pos (by simp [hd])]
        simp
      · rw [if_neg hj, List.filter_cons_of_neg (by rw [Bool.not_eq_true, decide_eq_false_iff_not]; exact fun (e : i = j) => hj e.symm)]



theorem q_add_cut {x y : Row} (h : x.length + y.length < LIM) : binD .Add (.tup (cut (x.map D.int) none (some (-1)))) (rowD y) = some (rowD (x.take (x.length - 1) ++ y)) := by
  rw [cut_i]
  refine q_add ?_
  have := List.length_take_le (x.length - 1) x
  rw [List.length_take]
  omega
theorem tab_join' {s t : List D} {ps : List Str} {st1 st2 : Stmt} {b : List Stmt} {nm : Names} {σ σ' : Nat} {v v' : D} {k : Nat} {g : List (Int × List D)} (hd : DEFS.lookup ("join" : Str) = some ⟨ps, st1 :: st2 :: b, nm⟩) (hg : groupFrom t [] = some g)
    (he : exs (tab DEFS k) glob 150 nm b ((("begun" : Str), V.grp g) :: ps.zip [.d (.tup s), .d (.tup t)]) σ = some (.ret (.d v), σ')) (hv : v = v') : tab DEFS (k + 1) "join" [.d (.tup s), .d (.tup t)] σ = some (.d v', σ') := by
  rw [← hv]
  exact tab_join hd hg he
noncomputable def joinL (s t : List Row) : List Row := s.flatMap fun o => (behindOf t (lst o)).map fun y => o.take (o.length - 1) ++ y
theorem flat_join {s t : List Row} : (s.flatMap fun o => (behindOf t (lst o)).flatMap fun y => [rowD (o.take (o.length - 1) ++ y)]) = (joinL s t).map rowD := by
  unfold joinL
  rw [List.map_flatMap]
  congr 1
  funext x
  rw [flat_one, List.map_map]
  rfl
theorem len_joinL (s t : List Row) : (joinL s t).length ≤ s.length * t.length := by
  unfold joinL
  induction s with
  | nil => simp
  | cons o s ih =>
    rw [List.flatMap_cons, List.length_append, List.length_cons, Nat.succ_mul, List.length_map]
    have : (behindOf t (lst o)).length ≤ t.length := by
      unfold behindOf
      rw [List.length_map]
      exact List.length_filter_le _ _
    omega
theorem pset_joinL (s t : List Row) : pset (joinL s t) = pjoin s t := by
  unfold joinL pjoin behindOf
  congr 2
  funext o
  rw [List.map_map]
  rfl
theorem tab_set_ofl {k σ : Nat} {l : List Row} (hne : ∀ r ∈ l, r ≠ []) (hd : (dedupR [] l).length < 64) (hl : l.length < LIM) : tab DEFS (k + 1) "set_of_sets" [.d (.list (l.map rowD))] σ = some (.d (.tup ((pset l).map rowD)), σ) := by
  apply tab_def' rfl (by decide) (by decide) (by decide) rfl rfl
  · walk_at "ev"
    · exact sorted_rows (fun r hr => hne r (by simpa using (mem_dedupR r l []).mp hr)) hd
    walk_at "ev"
  · rfl
theorem tab_joins {k σ : Nat} {s t : List Row} (hs : ∀ r ∈ s, r ≠ []) (ht : ∀ r ∈ t, r ≠ []) (hs3 : ∀ r ∈ s, r.length ≤ 3) (ht3 : ∀ r ∈ t, r.length ≤ 3) (hsl : s.length ≤ 27) (htl : t.length ≤ 27) (hj : ∀ r ∈ joinL s t, r ≠ []) (hd : (dedupR [] (joinL s t)).length < 64) :
    tab DEFS (k + 2) "join" [.d (.tup (s.map rowD)), .d (.tup (t.map rowD))] σ = some (.d (.tup ((pjoin s t).map rowD)), σ) := by
  obtain ⟨g, hg, hl⟩ := group_rows t [] ht
  simp only [List.lookup_nil, Option.getD_none, List.nil_append] at hl
  have hst : s.length * t.length ≤ 27 * 27 := Nat.mul_le_mul hsl htl
  have hjl := len_joinL s t
  apply tab_join' rfl hg
  · walk_at "ev"
    rw [hl]
    walk_at "ev"
    · rename_i x hx y hy
      refine q_add_cut ?_
      have h1 := hs3 _ hx
      obtain ⟨z, hz, rfl⟩ := List.mem_map.mp hy
      have h2 := ht3 _ (List.mem_filter.mp hz).1
      rw [List.length_drop]
      unfold LIM
      omega
    walk_at "ev"
    · rw [flat_join, List.length_map]; unfold LIM; omega
    walk_at "ev"
    · rw [flat_join]
      exact tab_set_ofl hj hd (by unfold LIM; omega)
  · rw [pset_joinL]



local macro_rules | `(tactic| walk_at "ev9") => `(tactic| first
  | ((with_reducible show tab _ _ _ _ _ = some _); assumption))


theorem two_union {k σ : Nat} {n : Int} {rels : List D} {S T : V} {r : D} (h : tab DEFS k "union" [S, T] σ = some (.d r, σ)) : tab DEFS (k + 1) "Evaluator.of_two" [.ev n rels, .d (.str "union"), S, T] σ = some (.d r, σ) := by
  apply tab_def' rfl (by decide) (by decide) (by decide) rfl rfl
  · walk_at "ev"
  · rfl
theorem two_meet {k σ : Nat} {n : Int} {rels : List D} {S T : V} {r : D} (h : tab DEFS k "meet" [S, T] σ = some (.d r, σ)) : tab DEFS (k + 1) "Evaluator.of_two" [.ev n rels, .d (.str "meet"), S, T] σ = some (.d r, σ) := by
  apply tab_def' rfl (by decide) (by decide) (by decide) rfl rfl
  · walk_at "ev"
  · rfl
theorem two_minus {k σ : Nat} {n : Int} {rels : List D} {S T : V} {r : D} (h : tab DEFS k "minus" [S, T] σ = some (.d r, σ)) : tab DEFS (k + 1) "Evaluator.of_two" [.ev n rels, .d (.str "minus"), S, T] σ = some (.d r, σ) := by
  apply tab_def' rfl (by decide) (by decide) (by decide) rfl rfl
  · walk_at "ev"
  · rfl
theorem two_join {k σ : Nat} {n : Int} {rels : List D} {S T : V} {r : D} (h : tab DEFS k "join" [S, T] σ = some (.d r, σ)) : tab DEFS (k + 1) "Evaluator.of_two" [.ev n rels, .d (.str "join"), S, T] σ = some (.d r, σ) := by
  apply tab_def' rfl (by decide) (by decide) (by decide) rfl rfl
  · walk_at "ev"
  · rfl
theorem two_product {k σ : Nat} {n : Int} {rels : List D} {S T : V} {r : D} (h : tab DEFS k "product" [S, T] σ = some (.d r, σ)) : tab DEFS (k + 1) "Evaluator.of_two" [.ev n rels, .d (.str "product"), S, T] σ = some (.d r, σ) := by
  apply tab_def' rfl (by decide) (by decide) (by decide) rfl rfl
  · walk_at "ev"
  · rfl
theorem two_override {k σ : Nat} {n : Int} {rels : List D} {S T : V} {r : D} (h : tab DEFS k "override" [S, T] σ = some (.d r, σ)) : tab DEFS (k + 1) "Evaluator.of_two" [.ev n rels, .d (.str "override"), S, T] σ = some (.d r, σ) := by
  apply tab_def' rfl (by decide) (by decide) (by decide) rfl rfl
  · walk_at "ev"
  · rfl
theorem two_ahead {k σ : Nat} {n : Int} {rels : List D} {S T : V} {r : D} (h : tab DEFS k "ahead" [S, T] σ = some (.d r, σ)) : tab DEFS (k + 1) "Evaluator.of_two" [.ev n rels, .d (.str "ahead"), S, T] σ = some (.d r, σ) := by
  apply tab_def' rfl (by decide) (by decide) (by decide) rfl rfl
  · walk_at "ev"
  · rfl
theorem two_behind {k σ : Nat} {n : Int} {rels : List D} {S T : V} {r : D} (h : tab DEFS k "behind" [S, T] σ = some (.d r, σ)) : tab DEFS (k + 1) "Evaluator.of_two" [.ev n rels, .d (.str "behind"), S, T] σ = some (.d r, σ) := by
  apply tab_def' rfl (by decide) (by decide) (by decide) rfl rfl
  · walk_at "ev"
  · rfl

noncomputable def pmany (w : Str) (i : Int) : Bool := if w == ("some" : Str) then decide (0 < i) else if w == ("no" : Str) then i == 0 else if w == ("one" : Str) then i == 1 else decide (i < 2)
noncomputable def WORDS : List Str := ["some", "no", "one", "lone"]
theorem many_some {k σ : Nat} {n i : Int} {rels : List D} : tab DEFS (k + 1) "Evaluator.has_many" [.ev n rels, .d (.str "some"), .d (.int i)] σ = some (.d (.bool (decide (0 < i))), σ) := by
  apply tab_def' rfl (by decide) (by decide) (by decide) rfl rfl
  · walk_at "ev"
  · rfl
theorem many_no {k σ : Nat} {n i : Int} {rels : List D} : tab DEFS (k + 1) "Evaluator.has_many" [.ev n rels, .d (.str "no"), .d (.int i)] σ = some (.d (.bool (i == 0)), σ) := by
  apply tab_def' rfl (by decide) (by decide) (by decide) rfl rfl
  · walk_at "ev"
  · rfl
theorem many_one {k σ : Nat} {n i : Int} {rels : List D} : tab DEFS (k + 1) "Evaluator.has_many" [.ev n rels, .d (.str "one"), .d (.int i)] σ = some (.d (.bool (i == 1)), σ) := by
  apply tab_def' rfl (by decide) (by decide) (by decide) rfl rfl
  · walk_at "ev"
  · rfl
theorem many_lone {k σ : Nat} {n i : Int} {rels : List D} : tab DEFS (k + 1) "Evaluator.has_many" [.ev n rels, .d (.str "lone"), .d (.int i)] σ = some (.d (.bool (decide (i < 2))), σ) := by
  apply tab_def' rfl (by decide) (by decide) (by decide) rfl rfl
  · walk_at "ev"
  · rfl



local macro_rules | `(tactic| walk_at "ev9") => `(tactic| first
  | ((with_reducible show strs? _ = some _); rfl) | ((with_reducible show List.lookup _ (List.zip _ _) = some _); rfl) | ((with_reducible show decide _ = true); rfl) | with_reducible exact o_nil | ((with_reducible apply o_next); (with_reducible apply f_body); rfl))


theorem so_some {k σ : Nat} {i : Int} : tab DEFS (k + 1) "_law_is_so" [.d (.str "some"), .d (.int i)] σ = some (.d (.bool (decide (0 < i))), σ) := by
  apply tab_def' rfl (by decide) (by decide) (by decide) rfl rfl
  · walk_at "ev"
  · rfl
theorem so_no {k σ : Nat} {i : Int} : tab DEFS (k + 1) "_law_is_so" [.d (.str "no"), .d (.int i)] σ = some (.d (.bool (i == 0)), σ) := by
  apply tab_def' rfl (by decide) (by decide) (by decide) rfl rfl
  · walk_at "ev"
  · rfl
theorem so_one {k σ : Nat} {i : Int} : tab DEFS (k + 1) "_law_is_so" [.d (.str "one"), .d (.int i)] σ = some (.d (.bool (i == 1)), σ) := by
  apply tab_def' rfl (by decide) (by decide) (by decide) rfl rfl
  · walk_at "ev"
  · rfl
theorem so_lone {k σ : Nat} {i : Int} : tab DEFS (k + 1) "_law_is_so" [.d (.str "lone"), .d (.int i)] σ = some (.d (.bool ([D.int 0, D.int 1].any fun d => d.eqv (D.int i))), σ) := by
  apply tab_def' rfl (by decide) (by decide) (by decide) rfl rfl
  · walk_at "ev"
  · rfl
theorem set_rel {k σ : Nat} {n i : Int} {rels : List D} {d : D} (h : itemAt rels i = some d) : tab DEFS (k + 1) "Evaluator.set_of" [.ev n rels, .d (.tup [.str "rel", .int i]), .keys []] σ = some (.d d, σ) := by
  apply tab_def' rfl (by decide) (by decide) (by decide) rfl rfl
  · walk_at "ev"
    · show (itemAt rels i).bind (fun d => some (V.d d)) = _
      rw [h]; rfl
  · rfl
theorem set_prod {k σ : Nat} {n : Int} {rels : List D} {a b r : D} (h0 : itemAt rels 0 = some a) (h1 : itemAt rels 1 = some b) (h2 : tab DEFS (k + 1) "Evaluator.of_two" [.ev n rels, .d (.str "product"), .d a, .d b] σ = some (.d r, σ)) :
    tab DEFS (k + 2) "Evaluator.set_of" [.ev n rels, .d (.tup [.str "product", .tup [.str "rel", .int 0], .tup [.str "rel", .int 1]]), .keys []] σ = some (.d r, σ) := by
  have e0 := set_rel (k := k) (σ := σ) (n := n) h0
  have e1 := set_rel (k := k) (σ := σ) (n := n) h1
  apply tab_def' rfl (by decide) (by decide) (by decide) rfl rfl
  · walk_at "ev"
  · rfl
theorem truth_some {k σ : Nat} {n : Int} {rels ds : List D} {x : D} (h : tab DEFS (k + 1) "Evaluator.set_of" [.ev n rels, .d x, .keys []] σ = some (.d (.tup ds), σ)) : tab DEFS (k + 2) "Evaluator.truth" [.ev n rels, .d (.tup [.str "some", x]), .keys []] σ = some (.d (.bool (decide (0 < (ds.length : Int)))), σ) := by
  have e1 := many_some (k := k) (σ := σ) (n := n) (rels := rels) (i := (ds.length : Int))
  apply tab_def' rfl (by decide) (by decide) (by decide) rfl rfl
  · walk_at "ev"
  · rfl
theorem truth_no {k σ : Nat} {n : Int} {rels ds : List D} {x : D} (h : tab DEFS (k + 1) "Evaluator.set_of" [.ev n rels, .d x, .keys []] σ = some (.d (.tup ds), σ)) : tab DEFS (k + 2) "Evaluator.truth" [.ev n rels, .d (.tup [.str "no", x]), .keys []] σ = some (.d (.bool ((ds.length : Int) == 0)), σ) := by
  have e1 := many_no (k := k) (σ := σ) (n := n) (rels := rels) (i := (ds.length : Int))
  apply tab_def' rfl (by decide) (by decide) (by decide) rfl rfl
  · walk_at "ev"
  · rfl
theorem truth_one {k σ : Nat} {n : Int} {rels ds : List D} {x : D} (h : tab DEFS (k + 1) "Evaluator.set_of" [.ev n rels, .d x, .keys []] σ = some (.d (.tup ds), σ)) : tab DEFS (k + 2) "Evaluator.truth" [.ev n rels, .d (.tup [.str "one", x]), .keys []] σ = some (.d (.bool ((ds.length : Int) == 1)), σ) := by
  have e1 := many_one (k := k) (σ := σ) (n := n) (rels := rels) (i := (ds.length : Int))
  apply tab_def' rfl (by decide) (by decide) (by decide) rfl rfl
  · walk_at "ev"
  · rfl
theorem truth_lone {k σ : Nat} {n : Int} {rels ds : List D} {x : D} (h : tab DEFS (k + 1) "Evaluator.set_of" [.ev n rels, .d x, .keys []] σ = some (.d (.tup ds), σ)) : tab DEFS (k + 2) "Evaluator.truth" [.ev n rels, .d (.tup [.str "lone", x]), .keys []] σ = some (.d (.bool (decide ((ds.length : Int) < 2))), σ) := by
  have e1 := many_lone (k := k) (σ := σ) (n := n) (rels := rels) (i := (ds.length : Int))
  apply tab_def' rfl (by decide) (by decide) (by decide) rfl rfl
  · walk_at "ev"
  · rfl





theorem tab_draw' {cs : List Int} {wide : Int} {ps : List Str} {st : Stmt} {b : List Stmt} {nm : Names} {σ σ' : Nat} {v v' : D} {k : Nat} (hd : DEFS.lookup ("_law_draw" : Str) = some ⟨ps, st :: b, nm⟩) (hw : 0 < wide)
    (he : exs (tab DEFS k) glob 150 nm b (ps.zip [.feed cs, .d (.int wide)]) (σ + 1) = some (.ret (.d v), σ')) (hv : v = v') : tab DEFS (k + 1) "_law_draw" [.feed cs, .d (.int wide)] σ = some (.d v', σ') := by
  rw [← hv]
  exact tab_draw hd hw he
theorem q_mod {a b : Int} (h : 0 < b) : binD .Mod (.int a) (.int b) = some (.int (a % b)) := by
  show (if _ then _ else _) = _
  rw [if_pos h]
theorem q_mul {a b : Int} (h : a.natAbs < 4294967296 ∧ b.natAbs < 4294967296) : binD .Mult (.int a) (.int b) = some (.int (a * b)) := by
  show (if _ then _ else _) = _
  rw [if_pos h]
theorem q_cells {cs : List Int} {σ : Nat} (h : cs.length < LIM) : subV σ (.feed cs) (.d (.str "cells")) = some (.d (.list (cs.map .int))) := by
  show (if _ then _ else _) = _
  rw [if_pos h]
theorem draw_ok {cs : List Int} {wide : Int} {σ k : Nat} (hw : 0 < wide) (hc : cs.length < 64) (hσ : σ < 1000) : ∃ v, 0 ≤ v ∧ v < wide ∧ tab DEFS (k + 1) "_law_draw" [.feed cs, .d (.int wide)] σ = some (.d (.int v), σ + 1) := by
  have hlim : cs.length < LIM := by unfold LIM; omega
  by_cases h : σ + 1 ≤ cs.length
  · refine ⟨cs[σ] % wide, Int.emod_nonneg _ (by omega), Int.emod_lt_of_pos _ hw, ?_⟩
    apply tab_draw' rfl hw
    · walk_at "ev"
      apply s_if_t
      · walk_at "ev"
        · exact q_cells hlim
        walk_at "ev"
        show some (decide _) = some true
        rw [List.length_map]
        congr 1
        rw [decide_eq_true_eq]
        omega
      walk_at "ev"
      · exact q_cells hlim
      walk_at "ev"
      · show (itemAt (cs.map D.int) _).bind (fun d => some (V.d d)) = some (V.d (.int cs[σ]))
        unfold itemAt
        rw [if_pos (by omega), show (((σ + 1 : Nat) : Int) - 1).toNat = σ from by omega, List.getElem?_map, List.getElem?_eq_getElem (by omega)]
        rfl
      walk_at "ev"
      · exact q_mod hw
    · rfl
  · refine ⟨(11 * ((σ + 1 : Nat) : Int) * ((σ + 1 : Nat) : Int) + 7 * ((σ + 1 : Nat) : Int) + 2) % 1013 / 3 % wide, Int.emod_nonneg _ (by omega), Int.emod_lt_of_pos _ hw, ?_⟩
    apply tab_draw' rfl hw
    · walk_at "ev"
      apply s_if_f
      · walk_at "ev"
        · exact q_cells hlim
        walk_at "ev"
        show some (decide _) = some false
        rw [List.length_map]
        congr 1
        rw [decide_eq_false_iff_not]
        omega
      have h1 : ((σ + 1 : Nat) : Int).natAbs < 4294967296 := by omega
      have h2 : (11 * ((σ + 1 : Nat) : Int)).natAbs < 4294967296 := by omega
      walk_at "ev"
      · exact q_mul ⟨by decide, h1⟩
      walk_at "ev"
      · exact q_mul ⟨h2, h1⟩
      walk_at "ev"
      · exact q_mul ⟨by decide, h1⟩
      walk_at "ev"
      · exact q_mod hw
    · rfl
theorem all_21 {k σ : Nat} : tab DEFS (k + 1) "_law_all" [.d (.int 2), .d (.int 1)] σ = some (.d (.list ((allR 2 1).map rowD)), σ) := by kernel_rfl
theorem all_22 {k σ : Nat} : tab DEFS (k + 1) "_law_all" [.d (.int 2), .d (.int 2)] σ = some (.d (.list ((allR 2 2).map rowD)), σ) := by kernel_rfl
theorem all_23 {k σ : Nat} : tab DEFS (k + 1) "_law_all" [.d (.int 2), .d (.int 3)] σ = some (.d (.list ((allR 2 3).map rowD)), σ) := by kernel_rfl
theorem all_31 {k σ : Nat} : tab DEFS (k + 1) "_law_all" [.d (.int 3), .d (.int 1)] σ = some (.d (.list ((allR 3 1).map rowD)), σ) := by kernel_rfl
theorem all_32 {k σ : Nat} : tab DEFS (k + 1) "_law_all" [.d (.int 3), .d (.int 2)] σ = some (.d (.list ((allR 3 2).map rowD)), σ) := by kernel_rfl
theorem all_33 {k σ : Nat} : tab DEFS (k + 1) "_law_all" [.d (.int 3), .d (.int 3)] σ = some (.d (.list ((allR 3 3).map rowD)), σ) := by kernel_rfl


theorem b2_1 : stepB (allR 2 3) 1 = true := by decide +kernel
theorem b3_1 : stepB (allR 3 3) 1 = true := by decide +kernel
theorem b2_2 : stepB (allR 2 3) 2 = true := by decide +kernel
theorem b3_2 : stepB (allR 3 3) 2 = true := by decide +kernel
theorem b2_3 : stepB (allR 2 3) 3 = true := by decide +kernel
theorem b3_3 : stepB (allR 3 3) 3 = true := by decide +kernel
theorem b2_4 : stepB (allR 2 3) 4 = true := by decide +kernel
theorem b3_4 : stepB (allR 3 3) 4 = true := by decide +kernel
theorem b2_5 : stepB (allR 2 3) 5 = true := by decide +kernel
theorem b3_5 : stepB (allR 3 3) 5 = true := by decide +kernel
theorem all_b2 (s : Nat) (h1 : 0 < s) (h2 : s ≤ 5) : stepB (allR 2 3) s = true := by
  rcases (by omega : s = 1 ∨ s = 2 ∨ s = 3 ∨ s = 4 ∨ s = 5) with rfl | rfl | rfl | rfl | rfl
  · exact b2_1
  · exact b2_2
  · exact b2_3
  · exact b2_4
  · exact b2_5
theorem all_b3 (s : Nat) (h1 : 0 < s) (h2 : s ≤ 5) : stepB (allR 3 3) s = true := by
  rcases (by omega : s = 1 ∨ s = 2 ∨ s = 3 ∨ s = 4 ∨ s = 5) with rfl | rfl | rfl | rfl | rfl
  · exact b3_1
  · exact b3_2
  · exact b3_3
  · exact b3_4
  · exact b3_5





theorem q_pow {L : List D} (h : L.length < 64) : binD .Pow (.int 2) (.int L.length) = some (.int (2 ^ L.length)) := by
  show (if _ then _ else _) = _
  rw [if_pos (by omega)]
  simp
theorem q_shr {a : Int} {b : Nat} (ha : 0 ≤ a) (hb : b < 64) : binD .RShift (.int a) (.int b) = some (.int (a / 2 ^ b)) := by
  show (if _ then _ else _) = _
  rw [if_pos (by omega)]
  simp
theorem q_and1 {a : Int} (ha : 0 ≤ a) : binD .BitAnd (.int a) (.int 1) = some (.int (a % 2)) := by
  show (if _ then _ else _) = _
  rw [if_pos ⟨ha, rfl⟩]
/-- the rows whose bit is set -/
noncomputable def bitsOf (v : Int) (L : List Row) : List Row := (L.zipIdx.filter fun p => v / 2 ^ p.2 % 2 == 1).map (·.1)
theorem flat_bits {v : Int} {L : List Row} : ((L.map rowD).zipIdx.flatMap fun p => if (v / 2 ^ p.2 % 2 == 1) then [p.1] else []) = (bitsOf v L).map rowD := by
  have e : (L.map rowD).zipIdx = L.zipIdx.map fun p => (rowD p.1, p.2) := by
    rw [List.zipIdx_map]
    rfl
  rw [e, List.flatMap_map, bitsOf, List.map_map]
  exact flat_if (f := fun p : Row × Nat => rowD p.1)
theorem bits_sub (v : Int) (L : List Row) : (bitsOf v L).Sublist L := by
  unfold bitsOf
  have := (List.filter_sublist (p := fun p : Row × Nat => v / 2 ^ p.2 % 2 == 1) (l := L.zipIdx)).map (·.1)
  rwa [List.zipIdx_map_fst] at this
theorem some_1 {cs : List Int} {n : Int} {L : List Row} {σ k : Nat} (hall : ∀ σ, tab DEFS (k + 1) "_law_all" [.d (.int n), .d (.int 1)] σ = some (.d (.list (L.map rowD)), σ)) (hL : L.length < 10) (hc : cs.length < 64) (hσ : σ < 900) :
    ∃ s : List Row, s.Sublist L ∧ tab DEFS (k + 2) "_law_some" [.feed cs, .d (.int n), .d (.int 1)] σ = some (.d (.tup (s.map rowD)), σ + 1) := by
  have h2 : (0 : Int) < 2 ^ (L.map rowD).length := by exact Int.pow_pos (by decide)
  obtain ⟨v, hv0, hv1, hv⟩ := draw_ok (cs := cs) (σ := σ) (k := k) h2 hc (by omega)
  have ha := hall σ
  refine ⟨bitsOf v L, bits_sub v L, ?_⟩
  apply tab_def' rfl (by decide) (by decide) (by decide) rfl rfl
  · walk_at "ev"
    · exact q_pow (by rw [List.length_map]; omega)
    walk_at "ev"
    · rename_i p hp
      refine q_shr hv0 ?_
      obtain ⟨_, h9, _⟩ := List.mem_zipIdx hp
      rw [List.length_map] at h9
      omega
    walk_at "ev"
    · rename_i p hp
      exact q_and1 (Int.ediv_nonneg hv0 (by exact Int.le_of_lt (Int.pow_pos (by decide))))
    walk_at "ev"
    · rw [List.length_zipIdx, List.length_map]; unfold LIM; omega
    walk_at "ev"
  · rw [flat_bits]
theorem some_2 {cs : List Int} {n : Int} {L : List Row} {σ k : Nat} (hall : ∀ σ, tab DEFS (k + 1) "_law_all" [.d (.int n), .d (.int 2)] σ = some (.d (.list (L.map rowD)), σ)) (hL : L.length < 10) (hc : cs.length < 64) (hσ : σ < 900) :
    ∃ s : List Row, s.Sublist L ∧ tab DEFS (k + 2) "_law_some" [.feed cs, .d (.int n), .d (.int 2)] σ = some (.d (.tup (s.map rowD)), σ + 1) := by
  have h2 : (0 : Int) < 2 ^ (L.map rowD).length := by exact Int.pow_pos (by decide)
  obtain ⟨v, hv0, hv1, hv⟩ := draw_ok (cs := cs) (σ := σ) (k := k) h2 hc (by omega)
  have ha := hall σ
  refine ⟨bitsOf v L, bits_sub v L, ?_⟩
  apply tab_def' rfl (by decide) (by decide) (by decide) rfl rfl
  · walk_at "ev"
    · exact q_pow (by rw [List.length_map]; omega)
    walk_at "ev"
    · rename_i p hp
      refine q_shr hv0 ?_
      obtain ⟨_, h9, _⟩ := List.mem_zipIdx hp
      rw [List.length_map] at h9
      omega
    walk_at "ev"
    · rename_i p hp
      exact q_and1 (Int.ediv_nonneg hv0 (by exact Int.le_of_lt (Int.pow_pos (by decide))))
    walk_at "ev"
    · rw [List.length_zipIdx, List.length_map]; unfold LIM; omega
    walk_at "ev"
  · rw [flat_bits]





theorem q_pick {L : List Row} {e : Int} {σ : Nat} (h : 0 < L.length) : subV σ (.d (.list (L.map rowD))) (.d (.int (e % ((L.map rowD).length : Int)))) = some (.d (rowD (L.getD (e % (L.length : Int)).toNat []))) := by
  show (itemAt (L.map rowD) _).bind (fun d => some (V.d d)) = _
  rw [List.length_map]
  have h0 : 0 ≤ e % (L.length : Int) := Int.emod_nonneg _ (by omega)
  have h1 : e % (L.length : Int) < L.length := Int.emod_lt_of_pos _ (by omega)
  unfold itemAt
  rw [if_pos h0, List.getElem?_map, List.getD_eq_getElem?_getD, List.getElem?_eq_getElem (by omega)]
  rfl
theorem set_rows {rs ks : List Row} {k σ : Nat} (hs : setRows rs = some ks) (hl : rs.length < 64) : tab DEFS k "set" [.d (.list (rs.map rowD))] σ = some (.setk (ks.map rowD), σ) := by
  refine tab_basic ?_ k
  show (if ((rs.map rowD).all isRow && decide ((rs.map rowD).length < 64)) = true then (setRows ((rs.map rowD).map rowInts)).map (fun rs => (V.setk (rs.map rowD), σ)) else none) = _
  rw [if_pos (by rw [rows_isRow, List.length_map]; simpa using hl)]
  have e : (rs.map rowD).map rowInts = rs := by
    rw [List.map_map]
    have : (rowInts ∘ rowD) = id := funext rowInts_rowD
    rw [this, List.map_id]
  rw [e, hs]
  rfl
theorem sorted_set {ks : List Row} {k σ : Nat} (hne : ∀ r ∈ ks, r ≠ []) (hl : ks.length < 64) (hn : ks.Nodup) : tab DEFS k "sorted" [.setk (ks.map rowD)] σ = some (.d (.list ((sortR ks).map rowD)), σ) := by
  refine tab_basic ?_ k
  have e : (ks.map rowD).map rowInts = ks := by
    rw [List.map_map]
    have : (rowInts ∘ rowD) = id := funext rowInts_rowD
    rw [this, List.map_id]
  show (if ((ks.map rowD).all isRow1 && decide ((ks.map rowD).length < 64) && decide ((ks.map rowD).map rowInts).Nodup) = true then some (V.d (.list (sortRows (ks.map rowD))), σ) else none) = _
  rw [e, if_pos (by rw [rows_isRow1 hne, List.length_map]; simp [hl, hn])]
  have := sortR_D ks
  unfold rowsD at this
  rw [this]
theorem pick_eq {L : List Row} {a b : Int} {c : Nat} (ha : 0 ≤ a) (hb : 0 ≤ b) : ((List.range c).flatMap fun (i : Nat) => [rowD (L.getD ((a + (1 + b) * (i : Int)) % (L.length : Int)).toNat [])]) = (pickR L a.toNat (1 + b).toNat c).map rowD := by
  rw [flat_one, pickR, List.map_map]
  refine List.map_congr_left fun i _ => ?_
  show rowD _ = rowD _
  congr 2
  have e : a + (1 + b) * (i : Int) = ((a.toNat + (1 + b).toNat * i : Nat) : Int) := by
    rw [Int.natCast_add, Int.natCast_mul, Int.toNat_of_nonneg ha, Int.toNat_of_nonneg (by omega)]
  rw [e]
  rw [← Int.natCast_emod, Int.toNat_natCast]
set_option maxHeartbeats 2000000 in
theorem some_3 {cs : List Int} {n : Int} {L : List Row} {σ k : Nat} (hall : ∀ σ, tab DEFS (k + 1) "_law_all" [.d (.int n), .d (.int 3)] σ = some (.d (.list (L.map rowD)), σ)) (hL : L.length < 30) (hL0 : 0 < L.length) (hne : ∀ r ∈ L, r ≠ []) (hb : ∀ step, 0 < step → step ≤ 5 → stepB L step = true)
    (hc : cs.length < 64) (hσ : σ < 900) : ∃ s : List Row, s.Pairwise (fun a b => lexLt a b = true) ∧ (∀ r ∈ s, r ∈ L) ∧ tab DEFS (k + 2) "_law_some" [.feed cs, .d (.int n), .d (.int 3)] σ = some (.d (.tup (s.map rowD)), σ + 3) := by
  obtain ⟨a, ha0, ha1, ha⟩ := draw_ok (cs := cs) (wide := (L.map rowD).length) (σ := σ) (k := k) (by rw [List.length_map]; omega) hc (by omega)
  obtain ⟨b, hb0, hb1, hb'⟩ := draw_ok (cs := cs) (wide := 5) (σ := σ + 1) (k := k) (by omega) hc (by omega)
  obtain ⟨c, hc0, hc1, hc'⟩ := draw_ok (cs := cs) (wide := 6) (σ := σ + 1 + 1) (k := k) (by omega) hc (by omega)
  have hal := hall σ
  rw [List.length_map] at ha1
  obtain ⟨ks, h1, h2, h3⟩ := pick_rows hb (first := a.toNat) (step := (1 + b).toNat) (cnt := c.toNat) (by omega) (by omega) (by omega) (by omega)
  refine ⟨sortR ks, sortR_sorted ks h2, fun r hr => h3 r ((sortR_perm ks).mem_iff.mp hr), ?_⟩
  apply tab_def' rfl (by decide) (by decide) (by decide) rfl rfl
  · walk_at "ev"
    · omega
    walk_at "ev"
    · rename_i x hx
      have hx' := List.mem_range.mp hx
      exact q_mul (by omega)
    walk_at "ev"
    · exact q_mod (by rw [List.length_map]; omega)
    walk_at "ev"
    · exact q_pick hL0
    walk_at "ev"
    · rw [List.length_range]; unfold LIM; omega
    walk_at "ev"
    · rw [pick_eq ha0 hb0]
      exact set_rows h1 (by rw [pickR, List.length_map, List.length_range]; omega)
    walk_at "ev"
    · refine sorted_set (fun r hr => hne r (h3 r hr)) ?_ h2
      have := nodup_le ks L h2 h3
      omega
    walk_at "ev"
  · rfl



theorem r_icall2 {T : Tab} {n : Nat} {nm : Names} {ρ : Rho} {σ σ₁ : Nat} {t a b : Expr} {f : Str} {p q : Pos} {r : List Expr} {v : V} {ds : List D} (h1 : ev T glob n nm (.Call (.Name f p) (a :: b :: r) [] q) ρ σ = some (v, σ₁)) (h2 : iterV v = some ds) :
    evI T glob (n + 1) nm t (.Call (.Name f p) (a :: b :: r) [] q) ρ σ = some (ds, σ₁) := bto h1 (bto h2 rfl)
theorem w_union {k σ : Nat} {a b : Int} : tab DEFS (k + 1) "_law_width" [.d (.str "union"), .d (.int a), .d (.int b)] σ = some (.d (.int a), σ) := by kernel_rfl
theorem w_meet {k σ : Nat} {a b : Int} : tab DEFS (k + 1) "_law_width" [.d (.str "meet"), .d (.int a), .d (.int b)] σ = some (.d (.int a), σ) := by kernel_rfl
theorem w_minus {k σ : Nat} {a b : Int} : tab DEFS (k + 1) "_law_width" [.d (.str "minus"), .d (.int a), .d (.int b)] σ = some (.d (.int a), σ) := by kernel_rfl
theorem w_override {k σ : Nat} {a b : Int} : tab DEFS (k + 1) "_law_width" [.d (.str "override"), .d (.int a), .d (.int b)] σ = some (.d (.int a), σ) := by kernel_rfl
theorem w_join {k σ : Nat} {a b : Int} : tab DEFS (k + 1) "_law_width" [.d (.str "join"), .d (.int a), .d (.int b)] σ = some (.d (.int (a + b - 2)), σ) := by kernel_rfl
theorem w_product {k σ : Nat} {a b : Int} : tab DEFS (k + 1) "_law_width" [.d (.str "product"), .d (.int a), .d (.int b)] σ = some (.d (.int (a + b - 0)), σ) := by kernel_rfl
theorem w_ahead {k σ : Nat} {a b : Int} : tab DEFS (k + 1) "_law_width" [.d (.str "ahead"), .d (.int a), .d (.int b)] σ = some (.d (.int b), σ) := by kernel_rfl
theorem w_behind {k σ : Nat} {a b : Int} : tab DEFS (k + 1) "_law_width" [.d (.str "behind"), .d (.int a), .d (.int b)] σ = some (.d (.int a), σ) := by kernel_rfl

theorem eqvs_rows (a b : List Row) : D.eqvs (a.map rowD) (b.map rowD) = decide (a = b) := by
  induction a generalizing b with
  | nil => cases b <;> simp [eqvs_nn, eqvs_nc]
  | cons x a ih =>
    cases b with
    | nil => simp [eqvs_cn]
    | cons y b =>
      simp only [List.map_cons, eqvs_cc, ih, row_eqv, List.cons.injEq]
      by_cases h : x = y
      · subst h; simp
      · simp [h]
theorem q_eq_rows {a b : List Row} : cmpV .Eq (.d (.tup (a.map rowD))) (.d (.tup (b.map rowD))) = some (decide (a = b)) := by
  show (if _ then _ else _) = _
  rw [if_pos (by rw [rows_simple, rows_simple]; rfl), eqvs_rows]
theorem q_ne_rows {a b : List Row} : cmpV .NotEq (.d (.tup (a.map rowD))) (.d (.tup (b.map rowD))) = some (!decide (a = b)) := by
  exact bto (x := eqD (.tup (a.map rowD)) (.tup (b.map rowD))) (q_eq_rows (a := a) (b := b)) rfl
theorem q_eq_if {a L : List Row} {c : Row → Bool} : cmpV .Eq (.d (.tup (a.map rowD))) (.d (.tup (L.flatMap fun x => if c x then [rowD x] else []))) = some (decide (a = L.filter c)) := by
  rw [flat_if]
  exact q_eq_rows
theorem q_in1 {s : List Row} {a : Int} : cmpV .In (.d (.tup [.int a])) (.d (.tup (s.map rowD))) = some (decide ([a] ∈ s)) := q_tin (x := [a])
theorem cut_take (x : Row) (j : Nat) : cut (x.map D.int) none (some (j : Int)) = (x.take j).map D.int := by
  unfold cut clampTo
  simp only [List.length_map, List.drop_zero]
  rw [if_neg (by omega), ← List.map_take, Int.toNat_natCast]
  congr 1
  rw [List.take_eq_take_iff]
  omega
theorem cut_drop (x : Row) (j : Nat) : cut (x.map D.int) (some (j : Int)) none = (x.drop j).map D.int := by
  unfold cut clampTo
  simp only [List.length_map]
  rw [if_neg (by omega), List.take_of_length_le (by simp), ← List.map_drop, Int.toNat_natCast]
  congr 1
  rcases Nat.le_total j x.length with h | h
  · rw [Nat.min_eq_left h]
  · rw [Nat.min_eq_right h, List.drop_of_length_le (Nat.le_refl _), List.drop_of_length_le h]
theorem q_tin_take {s : List Row} {x : Row} {j : Nat} : cmpV .In (.d (.tup (cut (x.map D.int) none (some (j : Int))))) (.d (.tup (s.map rowD))) = some (decide (x.take j ∈ s)) := by
  rw [cut_take]; exact q_tin
theorem q_tin_drop {s : List Row} {x : Row} {j : Nat} : cmpV .In (.d (.tup (cut (x.map D.int) (some (j : Int)) none))) (.d (.tup (s.map rowD))) = some (decide (x.drop j ∈ s)) := by
  rw [cut_drop]; exact q_tin
theorem q_nil_if {t : List Row} {c : Row → Bool} : cmpV .Eq (.d (.list (t.flatMap fun y => if c y then [rowD y] else []))) (.d (.list [])) = some (decide (t.filter c = [])) := by
  rw [flat_if]
  show (if _ then _ else _) = _
  rw [if_pos (by rw [rows_simple]; rfl)]
  cases t.filter c <;> simp [eqvs_nn, eqvs_cn]
theorem q_nil_ne {l : List Nat} {c : Nat → Bool} : cmpV .NotEq (.d (.list (l.flatMap fun (y : Nat) => if c y then [D.int y] else []))) (.d (.list [])) = some (!decide (l.filter c = [])) := by
  rw [flat_if]
  have e : eqD (.list ((l.filter c).map fun (y : Nat) => D.int y)) (.list []) = some (decide (l.filter c = [])) := by
    show (if _ then _ else _) = _
    have e2 : ((l.filter c).map fun (y : Nat) => D.int y) = ((l.filter c).map fun (y : Nat) => (y : Int)).map D.int := by rw [List.map_map]; rfl
    rw [if_pos (by rw [e2, ints_simple]; rfl)]
    cases l.filter c <;> simp [eqvs_nn, eqvs_cn]
  exact bto (x := eqD (.list ((l.filter c).map fun (y : Nat) => D.int y)) (.list [])) e rfl
local macro_rules | `(tactic| walk_at "ev9") => `(tactic| first
  | (with_reducible first | apply r_icall2 | exact q_eq_if | exact q_in1 | exact q_tin_take | exact q_tin_drop | exact q_nil_if | exact q_eq_rows | exact q_ne_rows))
section
local macro_rules | `(tactic| walk_at "ev8") => `(tactic| first
  | ((with_reducible show List.length [] < _); exact Nat.le_of_ble_eq_true rfl))

theorem made_ok {k σ : Nat} {n : Int} {rels : List D} {op : Str} {S T : D} {one other w : Int} {L res : List Row} {c : Row → Bool} (hw : tab DEFS (k + 1) "_law_width" [.d (.str op), .d (.int one), .d (.int other)] σ = some (.d (.int w), σ))
    (hall : tab DEFS (k + 1) "_law_all" [.d (.int n), .d (.int w)] σ = some (.d (.list (L.map rowD)), σ)) (hl : L.length < LIM)
    (hlets : ∀ x ∈ L, tab DEFS (k + 1) "_law_lets" [.d (.str op), .d S, .d T, .d (rowD x), .d (.int one), .d (.int n)] σ = some (.d (.bool (c x)), σ))
    (htwo : tab DEFS (k + 1) "Evaluator.of_two" [.ev n rels, .d (.str op), .d S, .d T] σ = some (.d (.tup (res.map rowD)), σ)) (he : res = L.filter c) :
    tab DEFS (k + 2) "_law_is_made" [.ev n rels, .d (.str op), .d S, .d T, .d (.int one), .d (.int other)] σ = some (.d (.bool true), σ) := by
  apply tab_def' rfl (by decide) (by decide) (by decide) rfl rfl
  · walk_at "ev"
    · exact hlets _ (by assumption)
    walk_at "ev"
  · rw [he]; simp
theorem lets_union {k σ : Nat} {s t : List Row} {x : Row} {one n : Int} : tab DEFS (k + 1) "_law_lets" [.d (.str "union"), .d (.tup (s.map rowD)), .d (.tup (t.map rowD)), .d (rowD x), .d (.int one), .d (.int n)] σ = some (.d (.bool (decide (x ∈ s) || decide (x ∈ t))), σ) := by
  apply tab_def' rfl (by decide) (by decide) (by decide) rfl rfl
  · walk_at "ev"
  · rfl
theorem lets_meet {k σ : Nat} {s t : List Row} {x : Row} {one n : Int} : tab DEFS (k + 1) "_law_lets" [.d (.str "meet"), .d (.tup (s.map rowD)), .d (.tup (t.map rowD)), .d (rowD x), .d (.int one), .d (.int n)] σ = some (.d (.bool (decide (x ∈ s) && decide (x ∈ t))), σ) := by
  apply tab_def' rfl (by decide) (by decide) (by decide) rfl rfl
  · walk_at "ev"
  · cases decide (x ∈ t) <;> rfl
theorem lets_minus {k σ : Nat} {s t : List Row} {x : Row} {one n : Int} : tab DEFS (k + 1) "_law_lets" [.d (.str "minus"), .d (.tup (s.map rowD)), .d (.tup (t.map rowD)), .d (rowD x), .d (.int one), .d (.int n)] σ = some (.d (.bool (decide (x ∈ s) && !decide (x ∈ t))), σ) := by
  apply tab_def' rfl (by decide) (by decide) (by decide) rfl rfl
  · walk_at "ev"
  · cases decide (x ∈ t) <;> rfl
theorem lets_ahead {k σ : Nat} {s t : List Row} {x : Row} {one n : Int} (hx : x ≠ []) : tab DEFS (k + 1) "_law_lets" [.d (.str "ahead"), .d (.tup (s.map rowD)), .d (.tup (t.map rowD)), .d (rowD x), .d (.int one), .d (.int n)] σ = some (.d (.bool (decide ([Mine.hd x] ∈ s) && decide (x ∈ t))), σ) := by
  apply tab_def' rfl (by decide) (by decide) (by decide) rfl rfl
  · walk_at "ev"
  · rfl
theorem lets_behind {k σ : Nat} {s t : List Row} {x : Row} {one n : Int} (hx : x ≠ []) : tab DEFS (k + 1) "_law_lets" [.d (.str "behind"), .d (.tup (s.map rowD)), .d (.tup (t.map rowD)), .d (rowD x), .d (.int one), .d (.int n)] σ = some (.d (.bool (decide (x ∈ s) && decide ([lst x] ∈ t))), σ) := by
  apply tab_def' rfl (by decide) (by decide) (by decide) rfl rfl
  · walk_at "ev"
  · rfl
theorem lets_product {k σ : Nat} {s t : List Row} {x : Row} {n : Int} {one : Nat} : tab DEFS (k + 1) "_law_lets" [.d (.str "product"), .d (.tup (s.map rowD)), .d (.tup (t.map rowD)), .d (rowD x), .d (.int one), .d (.int n)] σ = some (.d (.bool (decide (x.take one ∈ s) && decide (x.drop one ∈ t))), σ) := by
  apply tab_def' rfl (by decide) (by decide) (by decide) rfl rfl
  · walk_at "ev"
  · rfl
theorem lets_override {k σ : Nat} {s t : List Row} {x : Row} {one n : Int} (hx : x ≠ []) (ht : ∀ r ∈ t, r ≠ []) (hl : t.length < LIM) : tab DEFS (k + 1) "_law_lets" [.d (.str "override"), .d (.tup (s.map rowD)), .d (.tup (t.map rowD)), .d (rowD x), .d (.int one), .d (.int n)] σ = some (.d (.bool (decide (x ∈ t) || (decide (x ∈ s) && decide ((t.filter fun l => hd l == hd x) = [])))), σ) := by
  apply tab_def' rfl (by decide) (by decide) (by decide) rfl rfl
  · walk_at "ev"
  · rfl

end




theorem j_add1 {x : Row} {a : Nat} (hx : x.length < 10) : binD .Add (.tup (cut (x.map D.int) none (some (2 - 1)))) (.tup [.int a]) = some (rowD (x.take 1 ++ [(a : Int)])) := by
  have e : cut (x.map D.int) none (some (2 - 1)) = (x.take 1).map D.int := cut_take x 1
  rw [e]
  refine q_add (x := x.take 1) (y := [(a : Int)]) ?_
  rw [List.length_take]
  unfold LIM
  simp only [List.length_cons, List.length_nil]
  omega
theorem j_add2 {x : Row} {a : Nat} (hx : x.length < 10) : binD .Add (.tup [.int a]) (.tup (cut (x.map D.int) (some (2 - 1)) none)) = some (rowD ([(a : Int)] ++ x.drop 1)) := by
  have e : cut (x.map D.int) (some (2 - 1)) none = (x.drop 1).map D.int := cut_drop x 1
  rw [e]
  refine q_add (x := [(a : Int)]) (y := x.drop 1) ?_
  rw [List.length_drop]
  unfold LIM
  simp only [List.length_cons, List.length_nil]
  omega
theorem lets_join {k σ : Nat} {s t : List Row} {x : Row} {n : Nat} (hn : n < 10) (hx : x.length < 10) : tab DEFS (k + 1) "_law_lets" [.d (.str "join"), .d (.tup (s.map rowD)), .d (.tup (t.map rowD)), .d (rowD x), .d (.int 2), .d (.int n)] σ = some (.d (.bool (!decide (((List.range n).filter fun (a : Nat) => decide (x.take 1 ++ [(a : Int)] ∈ s) && decide ([(a : Int)] ++ x.drop 1 ∈ t)) = []))), σ) := by
  apply tab_def' rfl (by decide) (by decide) (by decide) rfl rfl
  · walk_at "ev"
    · omega
    walk_at "ev"
    · exact j_add1 hx
    walk_at "ev"
    · exact j_add2 hx
    walk_at "ev"
    · rw [List.length_range]; unfold LIM; omega
    walk_at "ev"
    · exact Nat.le_of_ble_eq_true rfl
    exact q_nil_ne
  · rw [Int.toNat_natCast]



theorem lex_app_left : ∀ (a b c d : Row), a.length = b.length → lexLt a b = true → lexLt (a ++ c) (b ++ d) = true
  | [], [], _, _, _, h => by simp [lexLt] at h
  | [], _ :: _, _, _, h, _ => by simp at h
  | _ :: _, [], _, _, h, _ => by simp at h
  | x :: a, y :: b, c, d, hl, h => by
    simp only [List.cons_append, lexLt] at h ⊢
    split
    · rename_i e
      rw [if_pos e] at h
      exact lex_app_left a b c d (by simpa using hl) h
    · rename_i e
      rw [if_neg e] at h
      exact h
theorem lex_app_same : ∀ (a c d : Row), lexLt c d = true → lexLt (a ++ c) (a ++ d) = true
  | [], _, _, h => h
  | x :: a, c, d, h => by
    simp only [List.cons_append, lexLt]
    rw [if_pos (by simp)]
    exact lex_app_same a c d h

theorem Rl.ne {n m : Nat} {s : List Row} (h : Rl n m s) (hm : 1 ≤ m) : ∀ r ∈ s, r ≠ [] := fun r hr e => by
  have := (h.u r hr).1
  subst e
  simp at this
  omega
theorem Rl.l3 {n m : Nat} {s : List Row} (h : Rl n m s) (hm : m ≤ 3) : ∀ r ∈ s, r.length ≤ 3 := fun r hr => by
  have := (h.u r hr).1
  omega
theorem Rl.eq {n m : Nat} {s t : List Row} (hs : Rl n m s) (ht : Rl n m t) (h : ∀ r, r ∈ s ↔ r ∈ t) : s = t := so_ext hs.so ht.so h
theorem Rl.filter {n m : Nat} {s : List Row} (h : Rl n m s) (p : Row → Bool) : Rl n m (s.filter p) := ⟨h.u.filter p, so_filter h.so p⟩
theorem Rl.union {n m : Nat} {s t : List Row} (hs : Rl n m s) (ht : Rl n m t) : Rl n m (punion s t) := U.pset (hs.u.app ht.u)
theorem Rl.meet {n m : Nat} {s : List Row} (hs : Rl n m s) (t : List Row) : Rl n m (pmeet s t) := hs.filter _
theorem Rl.minus {n m : Nat} {s : List Row} (hs : Rl n m s) (t : List Row) : Rl n m (pminus s t) := hs.filter _
theorem Rl.ahead {n m : Nat} {t : List Row} (s : List Row) (ht : Rl n m t) : Rl n m (pahead s t) := ht.filter _
theorem Rl.behind {n m : Nat} {s : List Row} (hs : Rl n m s) (t : List Row) : Rl n m (pbehind s t) := hs.filter _
theorem U.override {n m : Nat} {s t : List Row} (hs : Rl n m s) (ht : Rl n m t) : U n m (t ++ s.filter fun o => !decide (hd o ∈ t.map hd)) := ht.u.app (hs.u.filter _)
theorem Rl.override {n m : Nat} {s t : List Row} (hs : Rl n m s) (ht : Rl n m t) : Rl n m (poverride s t) := U.pset (U.override hs ht)
theorem inU.app {n a b : Nat} {r q : Row} (hr : inU n a r) (hq : inU n b q) : inU n (a + b) (r ++ q) :=
  ⟨by rw [List.length_append, hr.1, hq.1], fun x hx => (List.mem_append.mp hx).elim (hr.2 x) (hq.2 x)⟩
theorem Rl.product {n a b : Nat} {s t : List Row} (hs : Rl n a s) (ht : Rl n b t) : Rl n (a + b) (pproduct s t) where
  u := fun r hr => by
    obtain ⟨o, ho, l, hl, rfl⟩ := (mem_pproduct r s t).mp hr
    exact (hs.u o ho).app (ht.u l hl)
  so := by
    unfold pproduct
    rw [List.pairwise_flatMap]
    refine ⟨fun o _ => ?_, ?_⟩
    · rw [List.pairwise_map]
      exact ht.so.imp fun {x y} h => lex_app_same o x y h
    · refine List.Pairwise.imp_of_mem ?_ hs.so
      intro x y hx hy h p hp q hq
      obtain ⟨l1, _, rfl⟩ := List.mem_map.mp hp
      obtain ⟨l2, _, rfl⟩ := List.mem_map.mp hq
      exact lex_app_left x y l1 l2 ((hs.u x hx).1.trans (hs.u y hy).1.symm) h
theorem U.join {n a b : Nat} {s t : List Row} (hs : Rl n a s) (ht : Rl n b t) (ha : 1 ≤ a) (hb : 1 ≤ b) : U n (a + b - 2) (s.flatMap fun o => (t.filter fun l => decide (hd l = lst o)).map fun l => o.take (o.length - 1) ++ l.drop 1) := fun r hr => by
  simp only [List.mem_flatMap, List.mem_map, List.mem_filter] at hr
  obtain ⟨o, ho, l, ⟨hl, _⟩, rfl⟩ := hr
  have h1 := hs.u o ho
  have h2 := ht.u l hl
  refine ⟨?_, fun x hx => (List.mem_append.mp hx).elim (fun q => h1.2 x (List.mem_of_mem_take q)) fun q => h2.2 x (List.mem_of_mem_drop q)⟩
  rw [List.length_append, List.length_take, List.length_drop, h1.1, h2.1]
  omega
theorem Rl.join {n a b : Nat} {s t : List Row} (hs : Rl n a s) (ht : Rl n b t) (ha : 1 ≤ a) (hb : 1 ≤ b) : Rl n (a + b - 2) (pjoin s t) := U.pset (U.join hs ht ha hb)

/-! ## rows by their atoms -/
theorem u1 {n : Nat} {r : Row} (h : inU n 1 r) : ∃ i, r = [i] := by
  match r, h.1 with
  | [i], _ => exact ⟨i, rfl⟩
theorem u2 {n : Nat} {r : Row} (h : inU n 2 r) : ∃ i j, r = [i, j] := by
  match r, h.1 with
  | [i, j], _ => exact ⟨i, j, rfl⟩
theorem u3 {n : Nat} {r : Row} (h : inU n 3 r) : ∃ i j k, r = [i, j, k] := by
  match r, h.1 with
  | [i, j, k], _ => exact ⟨i, j, k, rfl⟩

section
variable {n : Nat} {a b r q t : List Row} {x : Row}
theorem j12 (ha : Rl n 1 a) (hr : Rl n 2 r) : x ∈ pjoin a r ↔ ∃ i j, [i] ∈ a ∧ [i, j] ∈ r ∧ x = [j] := by
  rw [mem_pjoin]
  constructor
  · rintro ⟨o, ho, l, hl, e, rfl⟩
    obtain ⟨i, rfl⟩ := u1 (ha.u o ho)
    obtain ⟨j, k, rfl⟩ := u2 (hr.u l hl)
    have e' : j = i := e
    subst e'
    exact ⟨j, k, ho, hl, rfl⟩
  · rintro ⟨i, j, h1, h2, rfl⟩
    exact ⟨_, h1, _, h2, rfl, rfl⟩
theorem j22 (ha : Rl n 2 r) (hr : Rl n 2 q) : x ∈ pjoin r q ↔ ∃ i j k, [i, j] ∈ r ∧ [j, k] ∈ q ∧ x = [i, k] := by
  rw [mem_pjoin]
  constructor
  · rintro ⟨o, ho, l, hl, e, rfl⟩
    obtain ⟨i, m, rfl⟩ := u2 (ha.u o ho)
    obtain ⟨j, k, rfl⟩ := u2 (hr.u l hl)
    have e' : j = m := e
    subst e'
    exact ⟨i, j, k, ho, hl, rfl⟩
  · rintro ⟨i, j, k, h1, h2, rfl⟩
    exact ⟨_, h1, _, h2, rfl, rfl⟩
theorem j23 (ha : Rl n 2 r) (hr : Rl n 3 t) : x ∈ pjoin r t ↔ ∃ i j k l, [i, j] ∈ r ∧ [j, k, l] ∈ t ∧ x = [i, k, l] := by
  rw [mem_pjoin]
  constructor
  · rintro ⟨o, ho, l, hl, e, rfl⟩
    obtain ⟨i, m, rfl⟩ := u2 (ha.u o ho)
    obtain ⟨j, k, l, rfl⟩ := u3 (hr.u l hl)
    have e' : j = m := e
    subst e'
    exact ⟨i, j, k, l, ho, hl, rfl⟩
  · rintro ⟨i, j, k, l, h1, h2, rfl⟩
    exact ⟨_, h1, _, h2, rfl, rfl⟩
theorem j32 (ha : Rl n 3 t) (hr : Rl n 2 q) : x ∈ pjoin t q ↔ ∃ i j k l, [i, j, k] ∈ t ∧ [k, l] ∈ q ∧ x = [i, j, l] := by
  rw [mem_pjoin]
  constructor
  · rintro ⟨o, ho, l, hl, e, rfl⟩
    obtain ⟨i, m, k, rfl⟩ := u3 (ha.u o ho)
    obtain ⟨j, l, rfl⟩ := u2 (hr.u l hl)
    have e' : j = k := e
    subst e'
    exact ⟨i, m, j, l, ho, hl, rfl⟩
  · rintro ⟨i, j, k, l, h1, h2, rfl⟩
    exact ⟨_, h1, _, h2, rfl, rfl⟩
theorem j21 (ha : Rl n 2 r) (hr : Rl n 1 a) : x ∈ pjoin r a ↔ ∃ i j, [i, j] ∈ r ∧ [j] ∈ a ∧ x = [i] := by
  rw [mem_pjoin]
  constructor
  · rintro ⟨o, ho, l, hl, e, rfl⟩
    obtain ⟨i, m, rfl⟩ := u2 (ha.u o ho)
    obtain ⟨j, rfl⟩ := u1 (hr.u l hl)
    have e' : j = m := e
    subst e'
    exact ⟨i, j, ho, hl, rfl⟩
  · rintro ⟨i, j, h1, h2, rfl⟩
    exact ⟨_, h1, _, h2, rfl, rfl⟩
theorem j31 (ha : Rl n 3 t) (hr : Rl n 1 a) : x ∈ pjoin t a ↔ ∃ i j k, [i, j, k] ∈ t ∧ [k] ∈ a ∧ x = [i, j] := by
  rw [mem_pjoin]
  constructor
  · rintro ⟨o, ho, l, hl, e, rfl⟩
    obtain ⟨i, m, k, rfl⟩ := u3 (ha.u o ho)
    obtain ⟨j, rfl⟩ := u1 (hr.u l hl)
    have e' : j = k := e
    subst e'
    exact ⟨i, m, j, ho, hl, rfl⟩
  · rintro ⟨i, j, k, h1, h2, rfl⟩
    exact ⟨_, h1, _, h2, rfl, rfl⟩
theorem p11 (ha : Rl n 1 a) (hb : Rl n 1 b) : x ∈ pproduct a b ↔ ∃ i j, [i] ∈ a ∧ [j] ∈ b ∧ x = [i, j] := by
  rw [mem_pproduct]
  constructor
  · rintro ⟨o, ho, l, hl, rfl⟩
    obtain ⟨i, rfl⟩ := u1 (ha.u o ho)
    obtain ⟨j, rfl⟩ := u1 (hb.u l hl)
    exact ⟨i, j, ho, hl, rfl⟩
  · rintro ⟨i, j, h1, h2, rfl⟩
    exact ⟨_, h1, _, h2, rfl⟩
theorem p12 (ha : Rl n 1 a) (hb : Rl n 2 r) : x ∈ pproduct a r ↔ ∃ i j k, [i] ∈ a ∧ [j, k] ∈ r ∧ x = [i, j, k] := by
  rw [mem_pproduct]
  constructor
  · rintro ⟨o, ho, l, hl, rfl⟩
    obtain ⟨i, rfl⟩ := u1 (ha.u o ho)
    obtain ⟨j, k, rfl⟩ := u2 (hb.u l hl)
    exact ⟨i, j, k, ho, hl, rfl⟩
  · rintro ⟨i, j, k, h1, h2, rfl⟩
    exact ⟨_, h1, _, h2, rfl⟩
theorem p21 (ha : Rl n 2 r) (hb : Rl n 1 a) : x ∈ pproduct r a ↔ ∃ i j k, [i, j] ∈ r ∧ [k] ∈ a ∧ x = [i, j, k] := by
  rw [mem_pproduct]
  constructor
  · rintro ⟨o, ho, l, hl, rfl⟩
    obtain ⟨i, j, rfl⟩ := u2 (ha.u o ho)
    obtain ⟨k, rfl⟩ := u1 (hb.u l hl)
    exact ⟨i, j, k, ho, hl, rfl⟩
  · rintro ⟨i, j, k, h1, h2, rfl⟩
    exact ⟨_, h1, _, h2, rfl⟩
end



theorem rl_range (n : Nat) : Rl n 1 ((List.range n).map fun (a : Nat) => [(a : Int)]) where
  u := fun r hr => by
    obtain ⟨i, hi, rfl⟩ := List.mem_map.mp hr
    have := List.mem_range.mp hi
    exact ⟨rfl, fun x hx => by rw [List.mem_singleton] at hx; subst hx; omega⟩
  so := by
    rw [List.pairwise_map]
    refine List.pairwise_lt_range.imp fun {i j} h => ?_
    simp only [lexLt]
    rw [if_neg (by simp; omega)]
    simpa using h
theorem rl_all (n : Nat) : ∀ m, Rl n m (allR n m)
  | 0 => ⟨fun r hr => by simp only [allR, List.mem_singleton] at hr; subst hr; exact ⟨rfl, by simp⟩, by simp [allR]⟩
  | m + 1 => by
    have := (rl_all n m).product (rl_range n)
    have e : pproduct (allR n m) ((List.range n).map fun (a : Nat) => [(a : Int)]) = allR n (m + 1) := by
      unfold pproduct
      rw [allR]
      congr 1
      funext r
      rw [List.map_map]
      rfl
    rw [e] at this
    exact this

section
variable {n : Nat} {a b r q t : List Row}
theorem at2 (hr : Rl n 2 r) {i j : Int} (h : [i, j] ∈ r) : [i] ∈ allR n 1 ∧ [j] ∈ allR n 1 := by
  have := (hr.u _ h).2
  exact ⟨(mem_allR n 1 _).mpr ⟨rfl, fun x hx => this x (by simp at hx; simp [hx])⟩, (mem_allR n 1 _).mpr ⟨rfl, fun x hx => this x (by simp at hx; simp [hx])⟩⟩
theorem at3 (ht : Rl n 3 t) {i j k : Int} (h : [i, j, k] ∈ t) : [i] ∈ allR n 1 ∧ [j] ∈ allR n 1 ∧ [k] ∈ allR n 1 ∧ [i, j] ∈ allR n 2 ∧ [j, k] ∈ allR n 2 := by
  have := (ht.u _ h).2
  refine ⟨(mem_allR n 1 _).mpr ⟨rfl, fun x hx => this x ?_⟩, (mem_allR n 1 _).mpr ⟨rfl, fun x hx => this x ?_⟩, (mem_allR n 1 _).mpr ⟨rfl, fun x hx => this x ?_⟩, (mem_allR n 2 _).mpr ⟨rfl, fun x hx => this x ?_⟩, (mem_allR n 2 _).mpr ⟨rfl, fun x hx => this x ?_⟩⟩
  · simp at hx; simp [hx]
  · simp at hx; simp [hx]
  · simp at hx; simp [hx]
  · simp at hx; rcases hx with e | e <;> simp [e]
  · simp at hx; rcases hx with e | e <;> simp [e]

theorem law1 (hr : Rl n 2 r) (hq : Rl n 2 q) : pmeet r q = pminus r (pminus r q) := by
  refine Rl.eq (hr.meet q) (hr.minus _) fun x => ?_
  rw [mem_pmeet, mem_pminus, mem_pminus]
  by_cases h1 : x ∈ r <;> by_cases h2 : x ∈ q <;> simp [h1, h2]
theorem law2 (hr : Rl n 2 r) (hq : Rl n 2 q) : punion (pminus r q) (pmeet r q) = r := by
  refine Rl.eq ((hr.minus q).union (hr.meet q)) hr fun x => ?_
  rw [mem_punion, mem_pmeet, mem_pminus]
  by_cases h1 : x ∈ r <;> by_cases h2 : x ∈ q <;> simp [h1, h2]
theorem law3 (hr : Rl n 2 r) (hq : Rl n 2 q) : punion r q = punion q (pminus r q) := by
  refine Rl.eq (hr.union hq) (hq.union (hr.minus q)) fun x => ?_
  rw [mem_punion, mem_punion, mem_pminus]
  by_cases h1 : x ∈ r <;> by_cases h2 : x ∈ q <;> simp [h1, h2]
theorem law4 (ha : Rl n 1 a) (hr : Rl n 2 r) (hq : Rl n 2 q) : pjoin (pjoin a r) q = pjoin a (pjoin r q) := by
  have h1 : Rl n 1 (pjoin a r) := ha.join hr (by omega) (by omega)
  have h2 : Rl n 2 (pjoin r q) := hr.join hq (by omega) (by omega)
  refine Rl.eq (h1.join hq (by omega) (by omega)) (ha.join h2 (by omega) (by omega)) fun x => ?_
  rw [j12 h1 hq, j12 ha h2]
  constructor
  · rintro ⟨i, j, h, h', rfl⟩
    obtain ⟨k, l, g1, g2, e⟩ := (j12 ha hr).mp h
    simp only [List.cons.injEq, and_true] at e
    subst e
    exact ⟨k, j, g1, (j22 hr hq).mpr ⟨k, i, j, g2, h', rfl⟩, rfl⟩
  · rintro ⟨i, j, h, h', rfl⟩
    obtain ⟨k, l, m, g1, g2, e⟩ := (j22 hr hq).mp h'
    simp only [List.cons.injEq, and_true] at e
    obtain ⟨rfl, rfl⟩ := e
    exact ⟨l, j, (j12 ha hr).mpr ⟨i, l, h, g1, rfl⟩, g2, rfl⟩
theorem law5 (hr : Rl n 2 r) (ht : Rl n 3 t) (hq : Rl n 2 q) : pjoin (pjoin r t) q = pjoin r (pjoin t q) := by
  have h1 : Rl n 3 (pjoin r t) := hr.join ht (by omega) (by omega)
  have h2 : Rl n 3 (pjoin t q) := ht.join hq (by omega) (by omega)
  refine Rl.eq (h1.join hq (by omega) (by omega)) (hr.join h2 (by omega) (by omega)) fun x => ?_
  rw [j32 h1 hq, j23 hr h2]
  constructor
  · rintro ⟨i, j, k, l, h, h', rfl⟩
    obtain ⟨i', j', k', l', g1, g2, e⟩ := (j23 hr ht).mp h
    simp only [List.cons.injEq, and_true] at e
    obtain ⟨rfl, rfl, rfl⟩ := e
    exact ⟨i, j', j, l, g1, (j32 ht hq).mpr ⟨j', j, k, l, g2, h', rfl⟩, rfl⟩
  · rintro ⟨i, j, k, l, h, h', rfl⟩
    obtain ⟨i', j', k', l', g1, g2, e⟩ := (j32 ht hq).mp h'
    simp only [List.cons.injEq, and_true] at e
    obtain ⟨rfl, rfl, rfl⟩ := e
    exact ⟨i, k, k', l, (j23 hr ht).mpr ⟨i, j, k, k', h, g1, rfl⟩, g2, rfl⟩
theorem law6 (ha : Rl n 1 a) (hb : Rl n 1 b) (hr : Rl n 2 r) : pjoin (pproduct a b) r = pproduct a (pjoin b r) := by
  have h1 : Rl n 2 (pproduct a b) := ha.product hb
  have h2 : Rl n 1 (pjoin b r) := hb.join hr (by omega) (by omega)
  refine Rl.eq (h1.join hr (by omega) (by omega)) (ha.product h2) fun x => ?_
  rw [j22 h1 hr, p11 ha h2]
  constructor
  · rintro ⟨i, j, k, h, h', rfl⟩
    obtain ⟨i', j', g1, g2, e⟩ := (p11 ha hb).mp h
    simp only [List.cons.injEq, and_true] at e
    obtain ⟨rfl, rfl⟩ := e
    exact ⟨i, k, g1, (j12 hb hr).mpr ⟨j, k, g2, h', rfl⟩, rfl⟩
  · rintro ⟨i, j, h, h', rfl⟩
    obtain ⟨i', j', g1, g2, e⟩ := (j12 hb hr).mp h'
    simp only [List.cons.injEq, and_true] at e
    obtain rfl := e
    exact ⟨i, i', j, (p11 ha hb).mpr ⟨i, i', h, g1, rfl⟩, g2, rfl⟩
theorem law7 (ha : Rl n 1 a) (hb : Rl n 1 b) (hr : Rl n 2 r) (hq : Rl n 2 q) : pjoin r (punion q (pproduct a b)) = punion (pjoin r q) (pproduct (pjoin r a) b) := by
  have h1 : Rl n 2 (pproduct a b) := ha.product hb
  have h2 : Rl n 2 (punion q (pproduct a b)) := hq.union h1
  have h3 : Rl n 1 (pjoin r a) := hr.join ha (by omega) (by omega)
  have h4 : Rl n 2 (pjoin r q) := hr.join hq (by omega) (by omega)
  refine Rl.eq (hr.join h2 (by omega) (by omega)) (h4.union (h3.product hb)) fun x => ?_
  rw [j22 hr h2, mem_punion, j22 hr hq, p11 h3 hb]
  constructor
  · rintro ⟨i, j, k, h, h', rfl⟩
    rcases (mem_punion _ _ _).mp h' with g | g
    · exact .inl ⟨i, j, k, h, g, rfl⟩
    · obtain ⟨i', j', g1, g2, e⟩ := (p11 ha hb).mp g
      simp only [List.cons.injEq, and_true] at e
      obtain ⟨rfl, rfl⟩ := e
      exact .inr ⟨i, k, (j21 hr ha).mpr ⟨i, j, h, g1, rfl⟩, g2, rfl⟩
  · rintro (⟨i, j, k, h, h', rfl⟩ | ⟨i, j, h, h', rfl⟩)
    · exact ⟨i, j, k, h, (mem_punion _ _ _).mpr (.inl h'), rfl⟩
    · obtain ⟨i', j', g1, g2, e⟩ := (j21 hr ha).mp h
      simp only [List.cons.injEq, and_true] at e
      obtain rfl := e
      exact ⟨i, j', j, g1, (mem_punion _ _ _).mpr (.inr ((p11 ha hb).mpr ⟨j', j, g2, h', rfl⟩)), rfl⟩
/-- who begins a pair of q -/
theorem begins (hq : Rl n 2 q) {i : Int} : [i] ∈ pjoin q (allR n 1) ↔ ∃ j, [i, j] ∈ q := by
  rw [j21 hq (rl_all n 1)]
  constructor
  · rintro ⟨i', j, h, _, e⟩
    simp only [List.cons.injEq, and_true] at e
    subst e
    exact ⟨j, h⟩
  · rintro ⟨j, h⟩
    exact ⟨i, j, h, (at2 hq h).2, rfl⟩
theorem firsts (ht : Rl n 3 t) {i : Int} : [i] ∈ pjoin (pjoin t (allR n 1)) (allR n 1) ↔ ∃ j k, [i, j, k] ∈ t := by
  have h1 : Rl n 2 (pjoin t (allR n 1)) := ht.join (rl_all n 1) (by omega) (by omega)
  rw [begins h1]
  constructor
  · rintro ⟨j, h⟩
    obtain ⟨i', j', k', g, _, e⟩ := (j31 ht (rl_all n 1)).mp h
    simp only [List.cons.injEq, and_true] at e
    obtain ⟨rfl, rfl⟩ := e
    exact ⟨j, k', g⟩
  · rintro ⟨j, k, h⟩
    exact ⟨j, (j31 ht (rl_all n 1)).mpr ⟨i, j, k, h, (at3 ht h).2.2.1, rfl⟩⟩
theorem law8 (hr : Rl n 2 r) (hq : Rl n 2 q) : poverride r q = punion q (pminus r (pahead (pjoin q (allR n 1)) r)) := by
  refine Rl.eq (hr.override hq) (hq.union (hr.minus _)) fun x => ?_
  rw [mem_poverride, mem_punion, mem_pminus, mem_pahead]
  by_cases hx : x ∈ r
  · obtain ⟨i, j, rfl⟩ := u2 (hr.u x hx)
    have e : List.take 1 [i, j] = [i] := rfl
    rw [e, begins hq]
    simp only [hx, true_and]
    refine or_congr Iff.rfl ?_
    constructor
    · rintro h ⟨k, g⟩
      exact h _ g rfl
    · intro h l hl e
      obtain ⟨i', j', rfl⟩ := u2 (hq.u l hl)
      have e' : i' = i := e
      subst e'
      exact h ⟨j', hl⟩
  · simp [hx]
theorem law9 {late : List Row} (hl : Rl n 3 late) (ht : Rl n 3 t) : poverride late t = punion t (pminus late (pahead (pjoin (pjoin t (allR n 1)) (allR n 1)) late)) := by
  refine Rl.eq (hl.override ht) (ht.union (hl.minus _)) fun x => ?_
  rw [mem_poverride, mem_punion, mem_pminus, mem_pahead]
  by_cases hx : x ∈ late
  · obtain ⟨i, j, k, rfl⟩ := u3 (hl.u x hx)
    have e : List.take 1 [i, j, k] = [i] := rfl
    rw [e, firsts ht]
    simp only [hx, true_and]
    refine or_congr Iff.rfl ?_
    constructor
    · rintro h ⟨j', k', g⟩
      exact h _ g rfl
    · intro h l hl' e
      obtain ⟨i', j', k', rfl⟩ := u3 (ht.u l hl')
      have e' : i' = i := e
      subst e'
      exact h ⟨j', k', hl'⟩
  · simp [hx]
theorem law10 (ha : Rl n 1 a) (hb : Rl n 1 b) : poverride a b = punion a b := by
  refine Rl.eq (ha.override hb) (ha.union hb) fun x => ?_
  rw [mem_poverride, mem_punion]
  constructor
  · rintro (h | ⟨h, _⟩)
    · exact .inr h
    · exact .inl h
  · rintro (h | h)
    · by_cases hx : x ∈ b
      · exact .inl hx
      · refine .inr ⟨h, fun l hl e => hx ?_⟩
        obtain ⟨i, rfl⟩ := u1 (ha.u x h)
        obtain ⟨j, rfl⟩ := u1 (hb.u l hl)
        have e' : j = i := e
        subst e'
        exact hl
    · exact .inl h
theorem law11 (ha : Rl n 1 a) (hr : Rl n 2 r) : pahead a r = pmeet r (pproduct a (allR n 1)) := by
  refine Rl.eq (Rl.ahead a hr) (hr.meet _) fun x => ?_
  rw [mem_pahead, mem_pmeet]
  by_cases hx : x ∈ r
  · obtain ⟨i, j, rfl⟩ := u2 (hr.u x hx)
    simp only [hx, true_and]
    rw [p11 ha (rl_all n 1)]
    constructor
    · intro h
      exact ⟨i, j, h, (at2 hr hx).2, rfl⟩
    · rintro ⟨i', j', h, _, e⟩
      simp only [List.cons.injEq, and_true] at e
      obtain ⟨rfl, rfl⟩ := e
      exact h
  · simp [hx]
theorem law12 (ha : Rl n 1 a) (hr : Rl n 2 r) : pbehind r a = pmeet r (pproduct (allR n 1) a) := by
  refine Rl.eq (hr.behind a) (hr.meet _) fun x => ?_
  rw [mem_pbehind, mem_pmeet]
  by_cases hx : x ∈ r
  · obtain ⟨i, j, rfl⟩ := u2 (hr.u x hx)
    simp only [hx, true_and]
    rw [p11 (rl_all n 1) ha]
    constructor
    · intro h
      exact ⟨i, j, (at2 hr hx).1, h, rfl⟩
    · rintro ⟨i', j', _, h, e⟩
      simp only [List.cons.injEq, and_true] at e
      obtain ⟨rfl, rfl⟩ := e
      exact h
  · simp [hx]
theorem law13 (ha : Rl n 1 a) (ht : Rl n 3 t) : pahead a t = pmeet t (pproduct a (allR n 2)) := by
  refine Rl.eq (Rl.ahead a ht) (ht.meet _) fun x => ?_
  rw [mem_pahead, mem_pmeet]
  by_cases hx : x ∈ t
  · obtain ⟨i, j, k, rfl⟩ := u3 (ht.u x hx)
    simp only [hx, true_and]
    rw [p12 ha (rl_all n 2)]
    constructor
    · intro h
      exact ⟨i, j, k, h, (at3 ht hx).2.2.2.2, rfl⟩
    · rintro ⟨i', j', k', h, _, e⟩
      simp only [List.cons.injEq, and_true] at e
      obtain ⟨rfl, rfl, rfl⟩ := e
      exact h
  · simp [hx]
theorem law14 (ha : Rl n 1 a) (ht : Rl n 3 t) : pbehind t a = pmeet t (pproduct (allR n 2) a) := by
  refine Rl.eq (ht.behind a) (ht.meet _) fun x => ?_
  rw [mem_pbehind, mem_pmeet]
  by_cases hx : x ∈ t
  · obtain ⟨i, j, k, rfl⟩ := u3 (ht.u x hx)
    simp only [hx, true_and]
    rw [p21 (rl_all n 2) ha]
    constructor
    · intro h
      exact ⟨i, j, k, (at3 ht hx).2.2.2.1, h, rfl⟩
    · rintro ⟨i', j', k', _, h, e⟩
      simp only [List.cons.injEq, and_true] at e
      obtain ⟨rfl, rfl, rfl⟩ := e
      exact h
  · simp [hx]
theorem law15 (ha : Rl n 1 a) (hb : Rl n 1 b) : pproduct (pproduct a b) a = pproduct a (pproduct b a) := by
  have h1 : Rl n 2 (pproduct a b) := ha.product hb
  have h2 : Rl n 2 (pproduct b a) := hb.product ha
  refine Rl.eq (h1.product ha) (ha.product h2) fun x => ?_
  rw [p21 h1 ha, p12 ha h2]
  constructor
  · rintro ⟨i, j, k, h, h', rfl⟩
    obtain ⟨i', j', g1, g2, e⟩ := (p11 ha hb).mp h
    simp only [List.cons.injEq, and_true] at e
    obtain ⟨rfl, rfl⟩ := e
    exact ⟨i, j, k, g1, (p11 hb ha).mpr ⟨j, k, g2, h', rfl⟩, rfl⟩
  · rintro ⟨i, j, k, h, h', rfl⟩
    obtain ⟨i', j', g1, g2, e⟩ := (p11 hb ha).mp h'
    simp only [List.cons.injEq, and_true] at e
    obtain ⟨rfl, rfl⟩ := e
    exact ⟨i, j, k, (p11 ha hb).mpr ⟨i, j, h, g1, rfl⟩, g2, rfl⟩

/-! ## what the law asks of each row -/
theorem due {m : Nat} {s : List Row} {c : Row → Bool} (hs : Rl n m s) (h : ∀ x, inU n m x → (x ∈ s ↔ c x = true)) : s = (allR n m).filter c := by
  refine Rl.eq hs ((rl_all n m).filter c) fun x => ?_
  rw [List.mem_filter, mem_allR]
  constructor
  · intro hx
    exact ⟨hs.u x hx, (h x (hs.u x hx)).mp hx⟩
  · rintro ⟨h1, h2⟩
    exact (h x h1).mpr h2
end



noncomputable abbrev R (s : List Row) : D := .tup (s.map rowD)
section
variable {n m k σ : Nat} {N : Int} {rels : List D} {s t : List Row}
theorem lim27 {l : List Row} (h : l.length ≤ 27) : l.length < LIM := by unfold LIM; omega

theorem ev_union (hn : n ≤ 3) (h1 : 1 ≤ m) (h3 : m ≤ 3) (hs : Rl n m s) (ht : Rl n m t) : tab DEFS (k + 3) "Evaluator.of_two" [.ev N rels, .d (.str "union"), .d (R s), .d (R t)] σ = some (.d (R (punion s t)), σ) :=
  two_union (tab_union (fun r hr => (List.mem_append.mp hr).elim (hs.ne h1 r) (ht.ne h1 r)) (Nat.lt_of_le_of_lt ((hs.u.app ht.u).dedup hn h3) (by omega)) (by have := hs.len hn h3; have := ht.len hn h3; unfold LIM; omega))
theorem ev_meet (hs : s.length ≤ 27) (ht : t.length ≤ 27) : tab DEFS (k + 3) "Evaluator.of_two" [.ev N rels, .d (.str "meet"), .d (R s), .d (R t)] σ = some (.d (R (pmeet s t)), σ) :=
  two_meet (tab_meet (lim27 hs) (lim27 ht))
theorem ev_minus (hs : s.length ≤ 27) (ht : t.length ≤ 27) : tab DEFS (k + 3) "Evaluator.of_two" [.ev N rels, .d (.str "minus"), .d (R s), .d (R t)] σ = some (.d (R (pminus s t)), σ) :=
  two_minus (tab_minus (lim27 hs) (lim27 ht))
theorem ev_ahead (hs : s.length ≤ 27) (ht : t.length ≤ 27) : tab DEFS (k + 3) "Evaluator.of_two" [.ev N rels, .d (.str "ahead"), .d (R s), .d (R t)] σ = some (.d (R (pahead s t)), σ) :=
  two_ahead (tab_ahead (lim27 hs) (lim27 ht))
theorem ev_behind (hs : s.length ≤ 27) (ht : t.length ≤ 27) : tab DEFS (k + 3) "Evaluator.of_two" [.ev N rels, .d (.str "behind"), .d (R s), .d (R t)] σ = some (.d (R (pbehind s t)), σ) :=
  two_behind (tab_behind (lim27 hs) (lim27 ht))
theorem ev_override (hn : n ≤ 3) (h1 : 1 ≤ m) (h3 : m ≤ 3) (hs : Rl n m s) (ht : Rl n m t) : tab DEFS (k + 3) "Evaluator.of_two" [.ev N rels, .d (.str "override"), .d (R s), .d (R t)] σ = some (.d (R (poverride s t)), σ) :=
  two_override (tab_override (hs.ne h1) (ht.ne h1) (lim27 (hs.len hn h3)) (lim27 (ht.len hn h3)) (by have := hs.len hn h3; have := ht.len hn h3; unfold LIM; omega) (Nat.lt_of_le_of_lt ((U.override hs ht).dedup hn h3) (by omega)))
theorem ev_product {a b : Nat} (hn : n ≤ 3) (hab : a + b ≤ 3) (hs : Rl n a s) (ht : Rl n b t) : tab DEFS (k + 3) "Evaluator.of_two" [.ev N rels, .d (.str "product"), .d (R s), .d (R t)] σ = some (.d (R (pproduct s t)), σ) :=
  two_product (tab_product (hs.len hn (by omega)) (ht.len hn (by omega)) (hs.l3 (by omega)) (ht.l3 (by omega)))
theorem joinL_eq (s t : List Row) : joinL s t = s.flatMap fun o => (t.filter fun l => decide (hd l = lst o)).map fun l => o.take (o.length - 1) ++ l.drop 1 := by
  unfold joinL behindOf
  congr 1
  funext o
  rw [List.map_map]
  rfl
theorem ev_join {a b : Nat} (hn : n ≤ 3) (h1 : 1 ≤ a) (h2 : 1 ≤ b) (ha : a ≤ 3) (hb : b ≤ 3) (hab : 3 ≤ a + b) (hab5 : a + b ≤ 5) (hs : Rl n a s) (ht : Rl n b t) : tab DEFS (k + 3) "Evaluator.of_two" [.ev N rels, .d (.str "join"), .d (R s), .d (R t)] σ = some (.d (R (pjoin s t)), σ) := by
  have hu : U n (a + b - 2) (joinL s t) := by rw [joinL_eq]; exact U.join hs ht h1 h2
  refine two_join (tab_joins (hs.ne h1) (ht.ne h2) (hs.l3 ha) (ht.l3 hb) (hs.len hn ha) (ht.len hn hb) (fun r hr e => ?_) (Nat.lt_of_le_of_lt (hu.dedup hn (by omega)) (by omega)))
  have := (hu r hr).1
  subst e
  simp at this
  omega

theorem all_ok (hn : n = 2 ∨ n = 3) (hm : m = 1 ∨ m = 2 ∨ m = 3) : tab DEFS (k + 1) "_law_all" [.d (.int n), .d (.int m)] σ = some (.d (.list ((allR n m).map rowD)), σ) := by
  rcases hn with rfl | rfl <;> rcases hm with rfl | rfl | rfl
  · exact all_21
  · exact all_22
  · exact all_23
  · exact all_31
  · exact all_32
  · exact all_33
theorem lim_all (hn : n = 2 ∨ n = 3) (hm : m ≤ 3) : (allR n m).length < LIM := by
  have := (rl_all n m).len (by omega) hm
  exact lim27 this

/-! ## _law_is_made -/
theorem made_union (hn : n = 2 ∨ n = 3) (hm : m = 1 ∨ m = 2 ∨ m = 3) {o : Int} (hs : Rl n m s) (ht : Rl n m t) : tab DEFS (k + 4) "_law_is_made" [.ev n rels, .d (.str "union"), .d (R s), .d (R t), .d (.int m), .d (.int o)] σ = some (.d (.bool true), σ) :=
  made_ok w_union (all_ok hn hm) (lim_all hn (by omega)) (fun _ _ => lets_union) (ev_union (by omega) (by omega) (by omega) hs ht) (due (hs.union ht) fun x _ => by rw [mem_punion]; simp)
theorem made_meet (hn : n = 2 ∨ n = 3) (hm : m = 1 ∨ m = 2 ∨ m = 3) {o : Int} (hs : Rl n m s) (ht : Rl n m t) : tab DEFS (k + 4) "_law_is_made" [.ev n rels, .d (.str "meet"), .d (R s), .d (R t), .d (.int m), .d (.int o)] σ = some (.d (.bool true), σ) :=
  made_ok w_meet (all_ok hn hm) (lim_all hn (by omega)) (fun _ _ => lets_meet) (ev_meet (hs.len (by omega) (by omega)) (ht.len (by omega) (by omega))) (due (hs.meet t) fun x _ => by rw [mem_pmeet]; simp)
theorem made_minus (hn : n = 2 ∨ n = 3) (hm : m = 1 ∨ m = 2 ∨ m = 3) {o : Int} (hs : Rl n m s) (ht : Rl n m t) : tab DEFS (k + 4) "_law_is_made" [.ev n rels, .d (.str "minus"), .d (R s), .d (R t), .d (.int m), .d (.int o)] σ = some (.d (.bool true), σ) :=
  made_ok w_minus (all_ok hn hm) (lim_all hn (by omega)) (fun _ _ => lets_minus) (ev_minus (hs.len (by omega) (by omega)) (ht.len (by omega) (by omega))) (due (hs.minus t) fun x _ => by rw [mem_pminus]; simp)
theorem made_override (hn : n = 2 ∨ n = 3) (hm : m = 1 ∨ m = 2 ∨ m = 3) {o : Int} (hs : Rl n m s) (ht : Rl n m t) : tab DEFS (k + 4) "_law_is_made" [.ev n rels, .d (.str "override"), .d (R s), .d (R t), .d (.int m), .d (.int o)] σ = some (.d (.bool true), σ) := by
  refine made_ok w_override (all_ok hn hm) (lim_all hn (by omega)) (fun x hx => lets_override ((rl_all n m).ne (by omega) x hx) (ht.ne (by omega)) (lim27 (ht.len (by omega) (by omega)))) (ev_override (by omega) (by omega) (by omega) hs ht) (due (hs.override ht) fun x _ => ?_)
  rw [mem_poverride]
  simp [List.filter_eq_nil_iff]
theorem take_hd {x : Row} (h : x ≠ []) : x.take 1 = [hd x] := by
  cases x with
  | nil => exact absurd rfl h
  | cons a x => rfl
theorem drop_lst {x : Row} (h : x ≠ []) : x.drop (x.length - 1) = [lst x] := by
  have := List.dropLast_concat_getLast h
  unfold lst
  rw [List.getLastD_eq_getLast?, List.getLast?_eq_some_getLast h]
  simp only [Option.getD_some]
  have hl : x.dropLast.length = x.length - 1 := List.length_dropLast
  calc x.drop (x.length - 1) = (x.dropLast ++ [x.getLast h]).drop (x.length - 1) := by rw [this]
    _ = [x.getLast h] := by rw [← hl, List.drop_left]
theorem made_ahead (hn : n = 2 ∨ n = 3) (hm : m = 1 ∨ m = 2 ∨ m = 3) {o : Int} {a : Nat} (ha3 : a ≤ 3) (hs : Rl n a s) (ht : Rl n m t) : tab DEFS (k + 4) "_law_is_made" [.ev n rels, .d (.str "ahead"), .d (R s), .d (R t), .d (.int o), .d (.int m)] σ = some (.d (.bool true), σ) := by
  refine made_ok w_ahead (all_ok hn hm) (lim_all hn (by omega)) (fun x hx => lets_ahead ((rl_all n m).ne (by omega) x hx)) (ev_ahead (hs.len (by omega) ha3) (ht.len (by omega) (by omega))) (due (Rl.ahead s ht) fun x hx => ?_)
  rw [mem_pahead, take_hd ((rl_all n m).ne (by omega) x ((mem_allR n m x).mpr hx))]
  simp [and_comm]
theorem made_behind (hn : n = 2 ∨ n = 3) (hm : m = 1 ∨ m = 2 ∨ m = 3) {o : Int} {a : Nat} (ha3 : a ≤ 3) (hs : Rl n m s) (ht : Rl n a t) : tab DEFS (k + 4) "_law_is_made" [.ev n rels, .d (.str "behind"), .d (R s), .d (R t), .d (.int m), .d (.int o)] σ = some (.d (.bool true), σ) := by
  refine made_ok w_behind (all_ok hn hm) (lim_all hn (by omega)) (fun x hx => lets_behind ((rl_all n m).ne (by omega) x hx)) (ev_behind (hs.len (by omega) (by omega)) (ht.len (by omega) ha3)) (due (hs.behind t) fun x hx => ?_)
  rw [mem_pbehind, drop_lst ((rl_all n m).ne (by omega) x ((mem_allR n m x).mpr hx))]
  simp
theorem made_product (hn : n = 2 ∨ n = 3) {a b : Nat} (hab : a + b = 3) (hs : Rl n a s) (ht : Rl n b t) : tab DEFS (k + 4) "_law_is_made" [.ev n rels, .d (.str "product"), .d (R s), .d (R t), .d (.int a), .d (.int b)] σ = some (.d (.bool true), σ) := by
  have e : ((a : Int) + (b : Int) - 0) = ((3 : Nat) : Int) := by omega
  have hp : Rl n 3 (pproduct s t) := hab ▸ hs.product ht
  refine made_ok (w := ((3 : Nat) : Int)) (by rw [← e]; exact w_product) (all_ok hn (.inr (.inr rfl))) (lim_all hn (by omega)) (fun x hx => lets_product) (ev_product (by omega) (by omega) hs ht) (due hp fun x hx => ?_)
  rw [mem_pproduct]
  simp only [Bool.and_eq_true, decide_eq_true_eq]
  constructor
  · rintro ⟨o, ho, l, hl, rfl⟩
    have := (hs.u o ho).1
    rw [← this, List.take_left, List.drop_left]
    exact ⟨ho, hl⟩
  · rintro ⟨h1, h2⟩
    exact ⟨_, h1, _, h2, (List.take_append_drop a x).symm⟩
theorem made_join (hn : n = 2 ∨ n = 3) {b : Nat} (hb : b = 2 ∨ b = 3) (hs : Rl n 2 s) (ht : Rl n b t) : tab DEFS (k + 4) "_law_is_made" [.ev n rels, .d (.str "join"), .d (R s), .d (R t), .d (.int 2), .d (.int b)] σ = some (.d (.bool true), σ) := by
  have e : ((2 : Int) + (b : Int) - 2) = (b : Int) := by omega
  have hj : Rl n b (pjoin s t) := by
    have := hs.join ht (by omega) (by omega)
    rwa [show 2 + b - 2 = b from by omega] at this
  refine made_ok (w := (b : Int)) (by have := w_join (k := k + 2) (σ := σ) (a := 2) (b := b); rw [e] at this; exact this) (all_ok hn (by omega)) (lim_all hn (by omega)) (fun x hx => lets_join (by omega) ?_) (ev_join (by omega) (by omega) (by omega) (by omega) (by omega) (by omega) (by omega) hs ht) (due hj fun x hx => ?_)
  · have := ((rl_all n b).u x hx).1
    omega
  · rw [mem_pjoin]
    simp only [Bool.not_eq_true', decide_eq_false_iff_not, List.filter_eq_nil_iff, List.mem_range, Bool.and_eq_true, decide_eq_true_eq, Classical.not_forall, Classical.not_not, not_imp]
    constructor
    · rintro ⟨o, ho, l, hl, e, rfl⟩
      obtain ⟨i, j, rfl⟩ := u2 (hs.u o ho)
      have hju := (hs.u _ ho).2 j (by simp)
      have el : l = j :: l.drop 1 := by
        cases l with
        | nil => exact absurd rfl (ht.ne (by omega) _ hl)
        | cons y l => have e' : y = j := e; subst e'; rfl
      refine ⟨j.toNat, by omega, ?_, ?_⟩
      · rw [Int.toNat_of_nonneg hju.1]
        exact ho
      · rw [Int.toNat_of_nonneg hju.1]
        show j :: l.drop 1 ∈ t
        rw [← el]
        exact hl
    · rintro ⟨j, hj', h1, h2⟩
      refine ⟨_, h1, _, h2, ?_, ?_⟩
      · have hx1 : x ≠ [] := by
          rintro rfl
          have := hx.1
          simp at this
          omega
        cases x with
        | nil => exact absurd rfl hx1
        | cons y x => rfl
      · cases x with
        | nil =>
          have := hx.1
          simp at this
          omega
        | cons y x => rfl
end

end Mine
end

section
open PySem PySem.W
namespace Mine


theorem q_ne_same {a b : List Row} (h : a = b) : cmpV .NotEq (.d (.tup (a.map rowD))) (.d (.tup (b.map rowD))) = some false := by
  rw [q_ne_rows, h]; simp
theorem r_bound' {T : Tab} {n : Nat} {nm : Names} {ρ : Rho} {σ σ₁ σ₂ : Nat} {f m : Str} {p q : Pos} {a : Expr} {args : List Expr} {k : Int} {rels : List D} {vs : List V} {r : Option (V × Nat)} (h1 : ev T glob n nm (.Name f p) ρ σ = some (.meth k rels m, σ₁)) (hm : meths.contains m = true) (h2 : evs T glob n nm (a :: args) ρ σ₁ = some (vs, σ₂))
    (h3 : T (("Evaluator." : Str) ++ m) (.ev k rels :: vs) σ₂ = r) : ev T glob (n + 1) nm (.Call (.Name f p) (a :: args) [] q) ρ σ = r := r_bound hm h1 h2 h3
theorem cmp_go {op : CmpOp} {a b : V} {c : Bool} (h : cmpV op a b = some c) : cmpV op a b = some c := h
theorem bin_go {op : Operator} {a b c : D} (h : binD op a b = some c) : binD op a b = some c := h
theorem sub_go {s : Nat} {a b c : V} (h : subV s a b = some c) : subV s a b = some c := h
theorem bindT_go {nm : Names} {e : Expr} {d : D} {ρ ρ₁ : Rho} (h : bindT nm e d ρ = some ρ₁) : bindT nm e d ρ = some ρ₁ := h
theorem strs_go {l : List (Option Expr)} {r : List Str} (h : strs? l = some r) : strs? l = some r := h
theorem look_go {x : Str} {a : List Str} {b : List D} {r : D} (h : List.lookup x (List.zip a b) = some r) : List.lookup x (List.zip a b) = some r := h
theorem dec_go {p : Prop} [Decidable p] (h : decide p = true) : decide p = true := h
theorem iter_go {v : V} {l : List D} (h : iterV v = some l) : iterV v = some l := h
theorem tab_go {d : List (Str × Def)} {k : Nat} {f : Str} {vs : List V} {σ : Nat} {r : V × Nat} (h : tab d k f vs σ = some r) : tab d k f vs σ = some r := h
theorem len_go {α : Type} {l : List α} {n : Nat} (h : l.length < n) : l.length < n := h
theorem ne_go {α : Type} {l : List α} (h : l ≠ []) : l ≠ [] := h
theorem iter_l {ds : List D} : iterV (.d (.list ds)) = some ds := rfl
theorem iter_t {ds : List D} : iterV (.d (.tup ds)) = some ds := rfl
theorem r_make {T : Tab} {n : Nat} {nm : Names} {ρ : Rho} {σ σ₁ σ₂ : Nat} {f : Str} {p q : Pos} {a : Expr} {args : List Expr} {k : Int} {rels : List D} {vs : List V} {r : Option (V × Nat)} (h1 : ev T glob n nm (.Name f p) ρ σ = some (.meth k rels "of_two", σ₁)) (h2 : evs T glob n nm (a :: args) ρ σ₁ = some (vs, σ₂))
    (h3 : T "Evaluator.of_two" (.ev k rels :: vs) σ₂ = r) : ev T glob (n + 1) nm (.Call (.Name f p) (a :: args) [] q) ρ σ = r := r_bound (by decide) h1 h2 h3
theorem r_body_f {T : Tab} {n : Nat} {nm : Names} {ρ ρ₁ : Rho} {σ : Nat} {t elt : Expr} {ifs : List Expr} {gs : List Comprehension} {d : D} (h1 : bindT nm t d ρ = some ρ₁) (h2 : tsts T glob n nm ifs ρ₁ σ = some (false, σ)) :
    bodyC T n nm t ifs elt gs ρ d σ = some ([], σ) := by
  unfold bodyC
  simp only [h1, h2, Option.bind_eq_bind, Option.bind_some]
  rfl
local macro_rules | `(tactic| walk_at "tb") => `(tactic| first
  | (with_reducible first | exact tab_len_t | exact tab_len_l | exact tab_tuple))
local macro_rules | `(tactic| walk_at "ev1") => `(tactic| first
  | (with_reducible first | exact r_int | exact r_str | exact r_bool | exact r_dict0 | exact r_evs0 | exact r_tsts0 | exact s_nil) | ((with_reducible apply r_loc) <;> rfl) | ((with_reducible apply r_glob) <;> rfl) | ((with_reducible apply r_cell) <;> rfl) | ((with_reducible apply r_free) <;> rfl) | (with_reducible first | apply r_bin | apply r_not | apply r_cmp) | ((with_reducible apply r_fn); walk_at "ev1") | ((with_reducible apply r_meth); rfl) | ((with_reducible apply r_make); walk_at "ev1") | with_reducible apply r_many | ((with_reducible apply r_attr); rfl; rfl; rfl) | (with_reducible first | apply r_tup | apply r_list) | ((with_reducible apply r_comp); rfl) | ((with_reducible apply r_range); walk_at "ev1") | ((with_reducible apply r_enum); rfl; walk_at "ev1") | ((with_reducible apply r_iter); rfl) | (with_reducible first | apply r_icall2 | apply r_evs1 | apply r_evC0) | ((with_reducible apply r_evC1); rfl) | (with_reducible first | apply r_tsts1 | apply t_cmp | apply t_call) | ((with_reducible apply r_and); rotate_left; intros; rotate_right) | ((with_reducible apply r_or); rotate_left; intros; rotate_right) | ((with_reducible apply t_and); rotate_left; intros; rotate_right) | ((with_reducible apply t_or); rotate_left; intros; rotate_right) | (with_reducible first | exact c_nil | apply c_cons) | ((with_reducible apply c_map); intros) | ((with_reducible apply r_body0); rfl) | ((with_reducible apply r_body_f); rfl) | ((with_reducible apply r_body); rfl) | ((with_reducible apply s_if_f); (focus ((repeat (walk_at "ev1")); done))) | ((with_reducible apply r_if_t); (focus ((repeat (walk_at "ev1")); done))) | ((with_reducible apply r_if_f); (focus ((repeat (walk_at "ev1")); done))) | ((with_reducible apply s_assign); rfl) | ((with_reducible apply s_assign2); rfl) | with_reducible apply s_return | walk_at "tb" | ((with_reducible apply iter_go); rfl) | ((with_reducible apply cmp_go); first | rfl | decide +kernel) | ((with_reducible apply bin_go); rfl) | (with_reducible first | exact p_nil | apply p_cons) | ((with_reducible apply bindT_go); rfl) | (with_reducible first | apply lim_one | apply lim_if) | ((with_reducible apply lim_lit); exact Nat.le_of_ble_eq_true rfl) | ((with_reducible apply tab_go); with_reducible assumption) | with_reducible exact q_nil_if | ((with_reducible apply q_ne_same); with_reducible assumption) | (with_reducible first | exact q_eq_rows | exact q_ne_rows | exact o_nil) | ((with_reducible apply o_next); (with_reducible apply f_body); rfl) | walk_at "ev9" | intro)
local macro_rules | `(tactic| walk_at "ev") => `(tactic| repeat (walk_at "ev1"))


set_option maxHeartbeats 1000000 in
theorem kept {n k σ : Nat} {rels : List D} {a b r q t : List Row} (hn : n = 2 ∨ n = 3) (ha : Rl n 1 a) (hb : Rl n 1 b) (hr : Rl n 2 r) (hq : Rl n 2 q) (ht : Rl n 3 t) : tab DEFS (k + 4) "_law_are_kept" [.ev n rels, .d (R a), .d (R b), .d (R r), .d (R q), .d (R t)] σ = some (.d (.bool true), σ) := by
  have hn3 : n ≤ 3 := by omega
  have ho := rl_all n 1
  have hw := rl_all n 2
  have a1 : tab DEFS (k + 3) "_law_all" [.d (.int n), .d (.int 1)] σ = some (.d (.list ((allR n 1).map rowD)), σ) := all_ok (m := 1) hn (by omega)
  have a2 : tab DEFS (k + 3) "_law_all" [.d (.int n), .d (.int 2)] σ = some (.d (.list ((allR n 2).map rowD)), σ) := all_ok (m := 2) hn (by omega)
  have g0 : Rl n 2 (pmeet r q) := hr.meet _
  have e0 : tab DEFS (k + 3) "Evaluator.of_two" [.ev n rels, .d (.str "meet"), .d (R r), .d (R q)] σ = some (.d (R (pmeet r q)), σ) := ev_meet (hr.len hn3 (by omega)) (hq.len hn3 (by omega))
  have g1 : Rl n 2 (pminus r q) := hr.minus _
  have e1 : tab DEFS (k + 3) "Evaluator.of_two" [.ev n rels, .d (.str "minus"), .d (R r), .d (R q)] σ = some (.d (R (pminus r q)), σ) := ev_minus (hr.len hn3 (by omega)) (hq.len hn3 (by omega))
  have g2 : Rl n 2 (pminus r (pminus r q)) := hr.minus _
  have e2 : tab DEFS (k + 3) "Evaluator.of_two" [.ev n rels, .d (.str "minus"), .d (R r), .d (R (pminus r q))] σ = some (.d (R (pminus r (pminus r q))), σ) := ev_minus (hr.len hn3 (by omega)) (g1.len hn3 (by omega))
  have g3 : Rl n 2 (punion (pminus r q) (pmeet r q)) := g1.union g0
  have e3 : tab DEFS (k + 3) "Evaluator.of_two" [.ev n rels, .d (.str "union"), .d (R (pminus r q)), .d (R (pmeet r q))] σ = some (.d (R (punion (pminus r q) (pmeet r q))), σ) := ev_union hn3 (by omega) (by omega) g1 g0
  have g4 : Rl n 2 (punion r q) := hr.union hq
  have e4 : tab DEFS (k + 3) "Evaluator.of_two" [.ev n rels, .d (.str "union"), .d (R r), .d (R q)] σ = some (.d (R (punion r q)), σ) := ev_union hn3 (by omega) (by omega) hr hq
  have g5 : Rl n 2 (punion q (pminus r q)) := hq.union g1
  have e5 : tab DEFS (k + 3) "Evaluator.of_two" [.ev n rels, .d (.str "union"), .d (R q), .d (R (pminus r q))] σ = some (.d (R (punion q (pminus r q))), σ) := ev_union hn3 (by omega) (by omega) hq g1
  have g6 : Rl n 1 (pjoin a r) := ha.join hr (by omega) (by omega)
  have e6 : tab DEFS (k + 3) "Evaluator.of_two" [.ev n rels, .d (.str "join"), .d (R a), .d (R r)] σ = some (.d (R (pjoin a r)), σ) := ev_join hn3 (by omega) (by omega) (by omega) (by omega) (by omega) (by omega) ha hr
  have g7 : Rl n 1 (pjoin (pjoin a r) q) := g6.join hq (by omega) (by omega)
  have e7 : tab DEFS (k + 3) "Evaluator.of_two" [.ev n rels, .d (.str "join"), .d (R (pjoin a r)), .d (R q)] σ = some (.d (R (pjoin (pjoin a r) q)), σ) := ev_join hn3 (by omega) (by omega) (by omega) (by omega) (by omega) (by omega) g6 hq
  have g8 : Rl n 2 (pjoin r q) := hr.join hq (by omega) (by omega)
  have e8 : tab DEFS (k + 3) "Evaluator.of_two" [.ev n rels, .d (.str "join"), .d (R r), .d (R q)] σ = some (.d (R (pjoin r q)), σ) := ev_join hn3 (by omega) (by omega) (by omega) (by omega) (by omega) (by omega) hr hq
  have g9 : Rl n 1 (pjoin a (pjoin r q)) := ha.join g8 (by omega) (by omega)
  have e9 : tab DEFS (k + 3) "Evaluator.of_two" [.ev n rels, .d (.str "join"), .d (R a), .d (R (pjoin r q))] σ = some (.d (R (pjoin a (pjoin r q))), σ) := ev_join hn3 (by omega) (by omega) (by omega) (by omega) (by omega) (by omega) ha g8
  have g10 : Rl n 3 (pjoin r t) := hr.join ht (by omega) (by omega)
  have e10 : tab DEFS (k + 3) "Evaluator.of_two" [.ev n rels, .d (.str "join"), .d (R r), .d (R t)] σ = some (.d (R (pjoin r t)), σ) := ev_join hn3 (by omega) (by omega) (by omega) (by omega) (by omega) (by omega) hr ht
  have g11 : Rl n 3 (pjoin (pjoin r t) q) := g10.join hq (by omega) (by omega)
  have e11 : tab DEFS (k + 3) "Evaluator.of_two" [.ev n rels, .d (.str "join"), .d (R (pjoin r t)), .d (R q)] σ = some (.d (R (pjoin (pjoin r t) q)), σ) := ev_join hn3 (by omega) (by omega) (by omega) (by omega) (by omega) (by omega) g10 hq
  have g12 : Rl n 3 (pjoin t q) := ht.join hq (by omega) (by omega)
  have e12 : tab DEFS (k + 3) "Evaluator.of_two" [.ev n rels, .d (.str "join"), .d (R t), .d (R q)] σ = some (.d (R (pjoin t q)), σ) := ev_join hn3 (by omega) (by omega) (by omega) (by omega) (by omega) (by omega) ht hq
  have g13 : Rl n 3 (pjoin r (pjoin t q)) := hr.join g12 (by omega) (by omega)
  have e13 : tab DEFS (k + 3) "Evaluator.of_two" [.ev n rels, .d (.str "join"), .d (R r), .d (R (pjoin t q))] σ = some (.d (R (pjoin r (pjoin t q))), σ) := ev_join hn3 (by omega) (by omega) (by omega) (by omega) (by omega) (by omega) hr g12
  have g14 : Rl n 2 (pproduct a b) := ha.product hb
  have e14 : tab DEFS (k + 3) "Evaluator.of_two" [.ev n rels, .d (.str "product"), .d (R a), .d (R b)] σ = some (.d (R (pproduct a b)), σ) := ev_product hn3 (by omega) ha hb
  have g15 : Rl n 2 (pjoin (pproduct a b) r) := g14.join hr (by omega) (by omega)
  have e15 : tab DEFS (k + 3) "Evaluator.of_two" [.ev n rels, .d (.str "join"), .d (R (pproduct a b)), .d (R r)] σ = some (.d (R (pjoin (pproduct a b) r)), σ) := ev_join hn3 (by omega) (by omega) (by omega) (by omega) (by omega) (by omega) g14 hr
  have g16 : Rl n 1 (pjoin b r) := hb.join hr (by omega) (by omega)
  have e16 : tab DEFS (k + 3) "Evaluator.of_two" [.ev n rels, .d (.str "join"), .d (R b), .d (R r)] σ = some (.d (R (pjoin b r)), σ) := ev_join hn3 (by omega) (by omega) (by omega) (by omega) (by omega) (by omega) hb hr
  have g17 : Rl n 2 (pproduct a (pjoin b r)) := ha.product g16
  have e17 : tab DEFS (k + 3) "Evaluator.of_two" [.ev n rels, .d (.str "product"), .d (R a), .d (R (pjoin b r))] σ = some (.d (R (pproduct a (pjoin b r))), σ) := ev_product hn3 (by omega) ha g16
  have g18 : Rl n 2 (punion q (pproduct a b)) := hq.union g14
  have e18 : tab DEFS (k + 3) "Evaluator.of_two" [.ev n rels, .d (.str "union"), .d (R q), .d (R (pproduct a b))] σ = some (.d (R (punion q (pproduct a b))), σ) := ev_union hn3 (by omega) (by omega) hq g14
  have g19 : Rl n 2 (pjoin r (punion q (pproduct a b))) := hr.join g18 (by omega) (by omega)
  have e19 : tab DEFS (k + 3) "Evaluator.of_two" [.ev n rels, .d (.str "join"), .d (R r), .d (R (punion q (pproduct a b)))] σ = some (.d (R (pjoin r (punion q (pproduct a b)))), σ) := ev_join hn3 (by omega) (by omega) (by omega) (by omega) (by omega) (by omega) hr g18
  have g20 : Rl n 1 (pjoin r a) := hr.join ha (by omega) (by omega)
  have e20 : tab DEFS (k + 3) "Evaluator.of_two" [.ev n rels, .d (.str "join"), .d (R r), .d (R a)] σ = some (.d (R (pjoin r a)), σ) := ev_join hn3 (by omega) (by omega) (by omega) (by omega) (by omega) (by omega) hr ha
  have g21 : Rl n 2 (pproduct (pjoin r a) b) := g20.product hb
  have e21 : tab DEFS (k + 3) "Evaluator.of_two" [.ev n rels, .d (.str "product"), .d (R (pjoin r a)), .d (R b)] σ = some (.d (R (pproduct (pjoin r a) b)), σ) := ev_product hn3 (by omega) g20 hb
  have g22 : Rl n 2 (punion (pjoin r q) (pproduct (pjoin r a) b)) := g8.union g21
  have e22 : tab DEFS (k + 3) "Evaluator.of_two" [.ev n rels, .d (.str "union"), .d (R (pjoin r q)), .d (R (pproduct (pjoin r a) b))] σ = some (.d (R (punion (pjoin r q) (pproduct (pjoin r a) b))), σ) := ev_union hn3 (by omega) (by omega) g8 g21
  have g23 : Rl n 2 (poverride r q) := hr.override hq
  have e23 : tab DEFS (k + 3) "Evaluator.of_two" [.ev n rels, .d (.str "override"), .d (R r), .d (R q)] σ = some (.d (R (poverride r q)), σ) := ev_override hn3 (by omega) (by omega) hr hq
  have g24 : Rl n 1 (pjoin q (allR n 1)) := hq.join ho (by omega) (by omega)
  have e24 : tab DEFS (k + 3) "Evaluator.of_two" [.ev n rels, .d (.str "join"), .d (R q), .d (R (allR n 1))] σ = some (.d (R (pjoin q (allR n 1))), σ) := ev_join hn3 (by omega) (by omega) (by omega) (by omega) (by omega) (by omega) hq ho
  have g25 : Rl n 2 (pahead (pjoin q (allR n 1)) r) := Rl.ahead _ hr
  have e25 : tab DEFS (k + 3) "Evaluator.of_two" [.ev n rels, .d (.str "ahead"), .d (R (pjoin q (allR n 1))), .d (R r)] σ = some (.d (R (pahead (pjoin q (allR n 1)) r)), σ) := ev_ahead (g24.len hn3 (by omega)) (hr.len hn3 (by omega))
  have g26 : Rl n 2 (pminus r (pahead (pjoin q (allR n 1)) r)) := hr.minus _
  have e26 : tab DEFS (k + 3) "Evaluator.of_two" [.ev n rels, .d (.str "minus"), .d (R r), .d (R (pahead (pjoin q (allR n 1)) r))] σ = some (.d (R (pminus r (pahead (pjoin q (allR n 1)) r))), σ) := ev_minus (hr.len hn3 (by omega)) (g25.len hn3 (by omega))
  have g27 : Rl n 2 (punion q (pminus r (pahead (pjoin q (allR n 1)) r))) := hq.union g26
  have e27 : tab DEFS (k + 3) "Evaluator.of_two" [.ev n rels, .d (.str "union"), .d (R q), .d (R (pminus r (pahead (pjoin q (allR n 1)) r)))] σ = some (.d (R (punion q (pminus r (pahead (pjoin q (allR n 1)) r)))), σ) := ev_union hn3 (by omega) (by omega) hq g26
  have g28 : Rl n 3 (pproduct a r) := ha.product hr
  have e28 : tab DEFS (k + 3) "Evaluator.of_two" [.ev n rels, .d (.str "product"), .d (R a), .d (R r)] σ = some (.d (R (pproduct a r)), σ) := ev_product hn3 (by omega) ha hr
  have g29 : Rl n 3 (poverride (pproduct a r) t) := g28.override ht
  have e29 : tab DEFS (k + 3) "Evaluator.of_two" [.ev n rels, .d (.str "override"), .d (R (pproduct a r)), .d (R t)] σ = some (.d (R (poverride (pproduct a r) t)), σ) := ev_override hn3 (by omega) (by omega) g28 ht
  have g30 : Rl n 2 (pjoin t (allR n 1)) := ht.join ho (by omega) (by omega)
  have e30 : tab DEFS (k + 3) "Evaluator.of_two" [.ev n rels, .d (.str "join"), .d (R t), .d (R (allR n 1))] σ = some (.d (R (pjoin t (allR n 1))), σ) := ev_join hn3 (by omega) (by omega) (by omega) (by omega) (by omega) (by omega) ht ho
  have g31 : Rl n 1 (pjoin (pjoin t (allR n 1)) (allR n 1)) := g30.join ho (by omega) (by omega)
  have e31 : tab DEFS (k + 3) "Evaluator.of_two" [.ev n rels, .d (.str "join"), .d (R (pjoin t (allR n 1))), .d (R (allR n 1))] σ = some (.d (R (pjoin (pjoin t (allR n 1)) (allR n 1))), σ) := ev_join hn3 (by omega) (by omega) (by omega) (by omega) (by omega) (by omega) g30 ho
  have g32 : Rl n 3 (pahead (pjoin (pjoin t (allR n 1)) (allR n 1)) (pproduct a r)) := Rl.ahead _ g28
  have e32 : tab DEFS (k + 3) "Evaluator.of_two" [.ev n rels, .d (.str "ahead"), .d (R (pjoin (pjoin t (allR n 1)) (allR n 1))), .d (R (pproduct a r))] σ = some (.d (R (pahead (pjoin (pjoin t (allR n 1)) (allR n 1)) (pproduct a r))), σ) := ev_ahead (g31.len hn3 (by omega)) (g28.len hn3 (by omega))
  have g33 : Rl n 3 (pminus (pproduct a r) (pahead (pjoin (pjoin t (allR n 1)) (allR n 1)) (pproduct a r))) := g28.minus _
  have e33 : tab DEFS (k + 3) "Evaluator.of_two" [.ev n rels, .d (.str "minus"), .d (R (pproduct a r)), .d (R (pahead (pjoin (pjoin t (allR n 1)) (allR n 1)) (pproduct a r)))] σ = some (.d (R (pminus (pproduct a r) (pahead (pjoin (pjoin t (allR n 1)) (allR n 1)) (pproduct a r)))), σ) := ev_minus (g28.len hn3 (by omega)) (g32.len hn3 (by omega))
  have g34 : Rl n 3 (punion t (pminus (pproduct a r) (pahead (pjoin (pjoin t (allR n 1)) (allR n 1)) (pproduct a r)))) := ht.union g33
  have e34 : tab DEFS (k + 3) "Evaluator.of_two" [.ev n rels, .d (.str "union"), .d (R t), .d (R (pminus (pproduct a r) (pahead (pjoin (pjoin t (allR n 1)) (allR n 1)) (pproduct a r))))] σ = some (.d (R (punion t (pminus (pproduct a r) (pahead (pjoin (pjoin t (allR n 1)) (allR n 1)) (pproduct a r))))), σ) := ev_union hn3 (by omega) (by omega) ht g33
  have g35 : Rl n 1 (poverride a b) := ha.override hb
  have e35 : tab DEFS (k + 3) "Evaluator.of_two" [.ev n rels, .d (.str "override"), .d (R a), .d (R b)] σ = some (.d (R (poverride a b)), σ) := ev_override hn3 (by omega) (by omega) ha hb
  have g36 : Rl n 1 (punion a b) := ha.union hb
  have e36 : tab DEFS (k + 3) "Evaluator.of_two" [.ev n rels, .d (.str "union"), .d (R a), .d (R b)] σ = some (.d (R (punion a b)), σ) := ev_union hn3 (by omega) (by omega) ha hb
  have g37 : Rl n 2 (pahead a r) := Rl.ahead _ hr
  have e37 : tab DEFS (k + 3) "Evaluator.of_two" [.ev n rels, .d (.str "ahead"), .d (R a), .d (R r)] σ = some (.d (R (pahead a r)), σ) := ev_ahead (ha.len hn3 (by omega)) (hr.len hn3 (by omega))
  have g38 : Rl n 2 (pproduct a (allR n 1)) := ha.product ho
  have e38 : tab DEFS (k + 3) "Evaluator.of_two" [.ev n rels, .d (.str "product"), .d (R a), .d (R (allR n 1))] σ = some (.d (R (pproduct a (allR n 1))), σ) := ev_product hn3 (by omega) ha ho
  have g39 : Rl n 2 (pmeet r (pproduct a (allR n 1))) := hr.meet _
  have e39 : tab DEFS (k + 3) "Evaluator.of_two" [.ev n rels, .d (.str "meet"), .d (R r), .d (R (pproduct a (allR n 1)))] σ = some (.d (R (pmeet r (pproduct a (allR n 1)))), σ) := ev_meet (hr.len hn3 (by omega)) (g38.len hn3 (by omega))
  have g40 : Rl n 2 (pbehind r a) := hr.behind _
  have e40 : tab DEFS (k + 3) "Evaluator.of_two" [.ev n rels, .d (.str "behind"), .d (R r), .d (R a)] σ = some (.d (R (pbehind r a)), σ) := ev_behind (hr.len hn3 (by omega)) (ha.len hn3 (by omega))
  have g41 : Rl n 2 (pproduct (allR n 1) a) := ho.product ha
  have e41 : tab DEFS (k + 3) "Evaluator.of_two" [.ev n rels, .d (.str "product"), .d (R (allR n 1)), .d (R a)] σ = some (.d (R (pproduct (allR n 1) a)), σ) := ev_product hn3 (by omega) ho ha
  have g42 : Rl n 2 (pmeet r (pproduct (allR n 1) a)) := hr.meet _
  have e42 : tab DEFS (k + 3) "Evaluator.of_two" [.ev n rels, .d (.str "meet"), .d (R r), .d (R (pproduct (allR n 1) a))] σ = some (.d (R (pmeet r (pproduct (allR n 1) a))), σ) := ev_meet (hr.len hn3 (by omega)) (g41.len hn3 (by omega))
  have g43 : Rl n 3 (pahead a t) := Rl.ahead _ ht
  have e43 : tab DEFS (k + 3) "Evaluator.of_two" [.ev n rels, .d (.str "ahead"), .d (R a), .d (R t)] σ = some (.d (R (pahead a t)), σ) := ev_ahead (ha.len hn3 (by omega)) (ht.len hn3 (by omega))
  have g44 : Rl n 3 (pproduct a (allR n 2)) := ha.product hw
  have e44 : tab DEFS (k + 3) "Evaluator.of_two" [.ev n rels, .d (.str "product"), .d (R a), .d (R (allR n 2))] σ = some (.d (R (pproduct a (allR n 2))), σ) := ev_product hn3 (by omega) ha hw
  have g45 : Rl n 3 (pmeet t (pproduct a (allR n 2))) := ht.meet _
  have e45 : tab DEFS (k + 3) "Evaluator.of_two" [.ev n rels, .d (.str "meet"), .d (R t), .d (R (pproduct a (allR n 2)))] σ = some (.d (R (pmeet t (pproduct a (allR n 2)))), σ) := ev_meet (ht.len hn3 (by omega)) (g44.len hn3 (by omega))
  have g46 : Rl n 3 (pbehind t a) := ht.behind _
  have e46 : tab DEFS (k + 3) "Evaluator.of_two" [.ev n rels, .d (.str "behind"), .d (R t), .d (R a)] σ = some (.d (R (pbehind t a)), σ) := ev_behind (ht.len hn3 (by omega)) (ha.len hn3 (by omega))
  have g47 : Rl n 3 (pproduct (allR n 2) a) := hw.product ha
  have e47 : tab DEFS (k + 3) "Evaluator.of_two" [.ev n rels, .d (.str "product"), .d (R (allR n 2)), .d (R a)] σ = some (.d (R (pproduct (allR n 2) a)), σ) := ev_product hn3 (by omega) hw ha
  have g48 : Rl n 3 (pmeet t (pproduct (allR n 2) a)) := ht.meet _
  have e48 : tab DEFS (k + 3) "Evaluator.of_two" [.ev n rels, .d (.str "meet"), .d (R t), .d (R (pproduct (allR n 2) a))] σ = some (.d (R (pmeet t (pproduct (allR n 2) a))), σ) := ev_meet (ht.len hn3 (by omega)) (g47.len hn3 (by omega))
  have g49 : Rl n 3 (pproduct (pproduct a b) a) := g14.product ha
  have e49 : tab DEFS (k + 3) "Evaluator.of_two" [.ev n rels, .d (.str "product"), .d (R (pproduct a b)), .d (R a)] σ = some (.d (R (pproduct (pproduct a b) a)), σ) := ev_product hn3 (by omega) g14 ha
  have g50 : Rl n 2 (pproduct b a) := hb.product ha
  have e50 : tab DEFS (k + 3) "Evaluator.of_two" [.ev n rels, .d (.str "product"), .d (R b), .d (R a)] σ = some (.d (R (pproduct b a)), σ) := ev_product hn3 (by omega) hb ha
  have g51 : Rl n 3 (pproduct a (pproduct b a)) := ha.product g50
  have e51 : tab DEFS (k + 3) "Evaluator.of_two" [.ev n rels, .d (.str "product"), .d (R a), .d (R (pproduct b a))] σ = some (.d (R (pproduct a (pproduct b a))), σ) := ev_product hn3 (by omega) ha g50
  have l0 : (pmeet r q) = (pminus r (pminus r q)) := law1 hr hq
  have l1 : (punion (pminus r q) (pmeet r q)) = r := law2 hr hq
  have l2 : (punion r q) = (punion q (pminus r q)) := law3 hr hq
  have l3 : (pjoin (pjoin a r) q) = (pjoin a (pjoin r q)) := law4 ha hr hq
  have l4 : (pjoin (pjoin r t) q) = (pjoin r (pjoin t q)) := law5 hr ht hq
  have l5 : (pjoin (pproduct a b) r) = (pproduct a (pjoin b r)) := law6 ha hb hr
  have l6 : (pjoin r (punion q (pproduct a b))) = (punion (pjoin r q) (pproduct (pjoin r a) b)) := law7 ha hb hr hq
  have l7 : (poverride r q) = (punion q (pminus r (pahead (pjoin q (allR n 1)) r))) := law8 hr hq
  have l8 : (poverride (pproduct a r) t) = (punion t (pminus (pproduct a r) (pahead (pjoin (pjoin t (allR n 1)) (allR n 1)) (pproduct a r)))) := law9 g28 ht
  have l9 : (poverride a b) = (punion a b) := law10 ha hb
  have l10 : (pahead a r) = (pmeet r (pproduct a (allR n 1))) := law11 ha hr
  have l11 : (pbehind r a) = (pmeet r (pproduct (allR n 1) a)) := law12 ha hr
  have l12 : (pahead a t) = (pmeet t (pproduct a (allR n 2))) := law13 ha ht
  have l13 : (pbehind t a) = (pmeet t (pproduct (allR n 2) a)) := law14 ha ht
  have l14 : (pproduct (pproduct a b) a) = (pproduct a (pproduct b a)) := law15 ha hb
  apply tab_def' rfl (by decide) (by decide) (by decide) rfl rfl
  · walk_at "ev"
    · exact Nat.le_of_ble_eq_true rfl
    walk_at "ev"
    · exact Nat.le_of_ble_eq_true rfl
    walk_at "ev"
  · rfl



theorem q_isnot {b : Bool} : cmpV .IsNot (.d (.bool b)) (.d (.bool b)) = some false := by cases b <;> rfl
theorem r_ask {T : Tab} {n : Nat} {nm : Names} {ρ : Rho} {σ σ₁ σ₂ : Nat} {f : Str} {p q : Pos} {a : Expr} {args : List Expr} {k : Int} {rels : List D} {vs : List V} {r : Option (V × Nat)} (h1 : ev T glob n nm (.Name f p) ρ σ = some (.meth k rels "has_many", σ₁)) (h2 : evs T glob n nm (a :: args) ρ σ₁ = some (vs, σ₂))
    (h3 : T "Evaluator.has_many" (.ev k rels :: vs) σ₂ = r) : ev T glob (n + 1) nm (.Call (.Name f p) (a :: args) [] q) ρ σ = r := r_bound (by decide) h1 h2 h3
theorem r_truth {T : Tab} {n : Nat} {nm : Names} {ρ : Rho} {σ σ₁ σ₂ : Nat} {x : Str} {px p : Pos} {a : Expr} {args : List Expr} {k : Int} {rels : List D} {vs : List V} {r : Option (V × Nat)} {l1 c1 l2 c2 : Nat} (h3 : (l2 == p.line && decide (args.length < 20)) = true) (h1 : ev T glob n nm (.Name x px) ρ σ = some (.ev k rels, σ₁)) (h2 : evs T glob n nm (a :: args) ρ σ₁ = some (vs, σ₂))
    (h4 : T "Evaluator.truth" (.ev k rels :: vs) σ₂ = r) : ev T glob (n + 1) nm (.Call (.Attribute (.Name x px) "truth" ⟨l1, c1, l2, c2⟩) (a :: args) [] p) ρ σ = r := by
  refine r_meth ?_ h1 h2 h4
  rw [Bool.and_assoc, h3]
  decide
theorem s_for {T : Tab} {n : Nat} {nm : Names} {ρ ρ₁ : Rho} {σ σ₁ σ₂ : Nat} {t it : Expr} {body rest : List Stmt} {p : Pos} {items : List D} {r : Option (Fl × Nat)} (h : evI T glob n nm t it ρ σ = some (items, σ₁)) (h1 : overF (bodyF T n nm t body) items ρ σ₁ = some (.next ρ₁, σ₂)) (h2 : exs T glob (n + 1) nm rest ρ₁ σ₂ = r) :
    exs T glob (n + 2) nm (.For t it body [] p :: rest) ρ σ = r := s_next (x_for h h1) h2
theorem o_range4 {f : D → Rho → Nat → Option (Fl × Nat)} {ρ : Rho} {σ : Nat} {r : Option (Fl × Nat)} (h : overF f [.int 0, .int 1, .int 2, .int 3] ρ σ = r) : overF f ((List.range (4 : Int).toNat).map fun (i : Nat) => D.int i) ρ σ = r := h
theorem o_enum4 {f : D → Rho → Nat → Option (Fl × Nat)} {ρ : Rho} {σ : Nat} {r : Option (Fl × Nat)} {w x y z : D} (h : overF f [.tup [.int 0, w], .tup [.int 1, x], .tup [.int 2, y], .tup [.int 3, z]] ρ σ = r) : overF f ([w, x, y, z].zipIdx.map fun p => D.tup [.int p.2, p.1]) ρ σ = r := h
theorem s_if_f' {T : Tab} {n : Nat} {nm : Names} {ρ : Rho} {σ σ₁ : Nat} {t : Expr} {a rest : List Stmt} {p : Pos} {c : Bool} {r : Option (Fl × Nat)} (h : tst T glob (n + 1) nm t ρ σ = some (c, σ₁)) (hc : c = false) (h1 : exs T glob (n + 2) nm rest ρ σ₁ = r) : exs T glob (n + 3) nm (.If t a [] p :: rest) ρ σ = r := s_if_f (hc ▸ h) h1

theorem rg_go {i : Int} (h : 0 ≤ i ∧ i < 1000) : 0 ≤ i ∧ i < 1000 := h
theorem len_split (p : Row → Bool) : ∀ l : List Row, l.length = (l.filter p).length + (l.filter fun x => !p x).length
  | [] => rfl
  | a :: l => by
    have := len_split p l
    by_cases h : p a = true
    · rw [List.filter_cons_of_pos h, List.filter_cons_of_neg (by simp [h]), List.length_cons, List.length_cons]
      omega
    · rw [List.filter_cons_of_neg h, List.filter_cons_of_pos (by simp [h]), List.length_cons, List.length_cons]
      omega
theorem len_union {n : Nat} {r q : List Row} (hr : Rl n 2 r) (hq : Rl n 2 q) : (punion r q).length + (pmeet r q).length = r.length + q.length := by
  have h1 : (punion r q).Perm (r ++ pminus q r) := by
    refine (List.perm_ext_iff_of_nodup (so_nodup (hr.union hq).so) ?_).mpr fun x => ?_
    · rw [List.nodup_append]
      exact ⟨so_nodup hr.so, so_nodup (hq.minus r).so, fun x hx y hy e => by subst e; exact ((mem_pminus x q r).mp hy).2 hx⟩
    · rw [mem_punion, List.mem_append, mem_pminus]
      by_cases h : x ∈ r <;> simp [h]
  have h2 : pmeet r q = pmeet q r := Rl.eq (hr.meet q) (hq.meet r) fun x => by rw [mem_pmeet, mem_pmeet, and_comm]
  have h3 : q.length = (pmeet q r).length + (pminus q r).length := by
    unfold pmeet pminus
    exact len_split (fun x => decide (x ∈ r)) q
  rw [h2, h1.length_eq, List.length_append, h3]
  omega
section
local macro_rules | `(tactic| walk_at "ev1") => `(tactic| first
  | ((with_reducible apply r_truth); rfl) | ((with_reducible apply r_ask); walk_at "ev1") | (with_reducible first | exact q_isnot | exact many_some | exact many_no | exact many_one | exact many_lone | exact so_some | exact so_no | exact so_one | exact so_lone) | ((with_reducible apply rg_go); decide) | ((with_reducible apply s_for); walk_at "ev1") | (with_reducible first | apply o_range4 | apply o_enum4))



theorem cnt_some (A B : Nat) : decide (0 < ((A * B : Nat) : Int)) = (decide (0 < (A : Int)) && decide (0 < (B : Int))) := by
  rw [Bool.eq_iff_iff]
  simp only [decide_eq_true_eq, Bool.and_eq_true]
  constructor
  · intro h
    have h1 : A ≠ 0 := by rintro rfl; simp at h
    have h2 : B ≠ 0 := by rintro rfl; simp at h
    omega
  · rintro ⟨h1, h2⟩
    have : 0 < A * B := Nat.mul_pos (by omega) (by omega)
    omega
theorem cnt_one (A B : Nat) : (((A * B : Nat) : Int) == 1) = ((A : Int) == 1 && (B : Int) == 1) := by
  rw [Bool.eq_iff_iff]
  simp only [beq_iff_eq, Bool.and_eq_true]
  constructor
  · intro h
    have h' : A * B = 1 := by omega
    have h1 : A = 1 := Nat.dvd_one.mp ⟨B, h'.symm⟩
    have h2 : B = 1 := Nat.dvd_one.mp ⟨A, by rw [Nat.mul_comm]; exact h'.symm⟩
    omega
  · rintro ⟨h1, h2⟩
    have h1' : A = 1 := by omega
    have h2' : B = 1 := by omega
    subst h1'; subst h2'
    rfl
theorem cnt_no (A B : Nat) : (((A * B : Nat) : Int) == 0) = ((A : Int) == 0 || (B : Int) == 0) := by
  rw [Bool.eq_iff_iff]
  simp only [beq_iff_eq, Bool.or_eq_true]
  constructor
  · intro h
    have := Nat.mul_eq_zero.mp (by omega : A * B = 0)
    omega
  · rintro (h | h)
    · have h' : A = 0 := by omega
      subst h'; simp
    · have h' : B = 0 := by omega
      subst h'; simp
set_option maxHeartbeats 2000000 in
theorem counted {n k σ : Nat} {a b r q t : List Row} (hn : n = 2 ∨ n = 3) (ha : Rl n 1 a) (hb : Rl n 1 b) (hr : Rl n 2 r) (hq : Rl n 2 q) : tab DEFS (k + 6) "_law_are_counted" [.ev n [R a, R b, R r, R q, R t], .d (R a), .d (R b), .d (R r), .d (R q)] σ = some (.d (.bool true), σ) := by
  have hn3 : n ≤ 3 := by omega
  have t_some0 := truth_some (k := k + 3) (σ := σ) (n := n) (set_rel (k := k + 3) (σ := σ) (n := n) (rels := [R a, R b, R r, R q, R t]) (i := 0) (d := R a) rfl)
  have t_some1 := truth_some (k := k + 3) (σ := σ) (n := n) (set_rel (k := k + 3) (σ := σ) (n := n) (rels := [R a, R b, R r, R q, R t]) (i := 1) (d := R b) rfl)
  have t_some2 := truth_some (k := k + 3) (σ := σ) (n := n) (set_rel (k := k + 3) (σ := σ) (n := n) (rels := [R a, R b, R r, R q, R t]) (i := 2) (d := R r) rfl)
  have t_some3 := truth_some (k := k + 3) (σ := σ) (n := n) (set_rel (k := k + 3) (σ := σ) (n := n) (rels := [R a, R b, R r, R q, R t]) (i := 3) (d := R q) rfl)
  have t_somep := truth_some (k := k + 3) (σ := σ) (n := n) (set_prod (k := k + 2) (σ := σ) (n := n) (rels := [R a, R b, R r, R q, R t]) rfl rfl (ev_product (k := k) hn3 (by omega) ha hb))
  have t_no0 := truth_no (k := k + 3) (σ := σ) (n := n) (set_rel (k := k + 3) (σ := σ) (n := n) (rels := [R a, R b, R r, R q, R t]) (i := 0) (d := R a) rfl)
  have t_no1 := truth_no (k := k + 3) (σ := σ) (n := n) (set_rel (k := k + 3) (σ := σ) (n := n) (rels := [R a, R b, R r, R q, R t]) (i := 1) (d := R b) rfl)
  have t_no2 := truth_no (k := k + 3) (σ := σ) (n := n) (set_rel (k := k + 3) (σ := σ) (n := n) (rels := [R a, R b, R r, R q, R t]) (i := 2) (d := R r) rfl)
  have t_no3 := truth_no (k := k + 3) (σ := σ) (n := n) (set_rel (k := k + 3) (σ := σ) (n := n) (rels := [R a, R b, R r, R q, R t]) (i := 3) (d := R q) rfl)
  have t_nop := truth_no (k := k + 3) (σ := σ) (n := n) (set_prod (k := k + 2) (σ := σ) (n := n) (rels := [R a, R b, R r, R q, R t]) rfl rfl (ev_product (k := k) hn3 (by omega) ha hb))
  have t_one0 := truth_one (k := k + 3) (σ := σ) (n := n) (set_rel (k := k + 3) (σ := σ) (n := n) (rels := [R a, R b, R r, R q, R t]) (i := 0) (d := R a) rfl)
  have t_one1 := truth_one (k := k + 3) (σ := σ) (n := n) (set_rel (k := k + 3) (σ := σ) (n := n) (rels := [R a, R b, R r, R q, R t]) (i := 1) (d := R b) rfl)
  have t_one2 := truth_one (k := k + 3) (σ := σ) (n := n) (set_rel (k := k + 3) (σ := σ) (n := n) (rels := [R a, R b, R r, R q, R t]) (i := 2) (d := R r) rfl)
  have t_one3 := truth_one (k := k + 3) (σ := σ) (n := n) (set_rel (k := k + 3) (σ := σ) (n := n) (rels := [R a, R b, R r, R q, R t]) (i := 3) (d := R q) rfl)
  have t_onep := truth_one (k := k + 3) (σ := σ) (n := n) (set_prod (k := k + 2) (σ := σ) (n := n) (rels := [R a, R b, R r, R q, R t]) rfl rfl (ev_product (k := k) hn3 (by omega) ha hb))
  have t_lone0 := truth_lone (k := k + 3) (σ := σ) (n := n) (set_rel (k := k + 3) (σ := σ) (n := n) (rels := [R a, R b, R r, R q, R t]) (i := 0) (d := R a) rfl)
  have t_lone1 := truth_lone (k := k + 3) (σ := σ) (n := n) (set_rel (k := k + 3) (σ := σ) (n := n) (rels := [R a, R b, R r, R q, R t]) (i := 1) (d := R b) rfl)
  have t_lone2 := truth_lone (k := k + 3) (σ := σ) (n := n) (set_rel (k := k + 3) (σ := σ) (n := n) (rels := [R a, R b, R r, R q, R t]) (i := 2) (d := R r) rfl)
  have t_lone3 := truth_lone (k := k + 3) (σ := σ) (n := n) (set_rel (k := k + 3) (σ := σ) (n := n) (rels := [R a, R b, R r, R q, R t]) (i := 3) (d := R q) rfl)
  have t_lonep := truth_lone (k := k + 3) (σ := σ) (n := n) (set_prod (k := k + 2) (σ := σ) (n := n) (rels := [R a, R b, R r, R q, R t]) rfl rfl (ev_product (k := k) hn3 (by omega) ha hb))
  have eP : tab DEFS (k + 5) "Evaluator.of_two" [.ev n [R a, R b, R r, R q, R t], .d (.str "product"), .d (R a), .d (R b)] σ = some (.d (R (pproduct a b)), σ) := ev_product (k := k + 2) hn3 (by omega) ha hb
  have eU : tab DEFS (k + 5) "Evaluator.of_two" [.ev n [R a, R b, R r, R q, R t], .d (.str "union"), .d (R r), .d (R q)] σ = some (.d (R (punion r q)), σ) := ev_union (k := k + 2) hn3 (by omega) (by omega) hr hq
  have eM : tab DEFS (k + 5) "Evaluator.of_two" [.ev n [R a, R b, R r, R q, R t], .d (.str "meet"), .d (R r), .d (R q)] σ = some (.d (R (pmeet r q)), σ) := ev_meet (k := k + 2) (hr.len hn3 (by omega)) (hq.len hn3 (by omega))
  apply tab_def' rfl (by decide) (by decide) (by decide) rfl rfl
  · walk_at "ev"
    apply s_if_f'
    · walk_at "ev"
    · simp only [List.length_map, len_pproduct, cnt_some, cnt_one, beq_self_eq_true, Bool.not_true, Bool.or_self]
    apply s_if_f'
    · walk_at "ev"
    · simp only [List.length_map, len_pproduct, cnt_no, beq_self_eq_true, Bool.not_true]
    walk_at "ev"
  · congr 1
    rw [beq_iff_eq]
    have := len_union hr hq
    simp only [List.length_map]
    omega

end



theorem tab_ev {n : Int} {rels : List D} {σ k : Nat} : tab DEFS k "Evaluator" [.d (.int n), .d (.list rels)] σ = some (.ev n rels, σ) := tab_basic rfl k
theorem t_not_t {T : Tab} {n : Nat} {nm : Names} {ρ : Rho} {σ σ₁ : Nat} {x : Expr} {q : Pos} (h : tst T glob n nm x ρ σ = some (true, σ₁)) : tst T glob (n + 1) nm (.UnaryOp .Not x q) ρ σ = some (false, σ₁) := t_not h
theorem s_if_e {T : Tab} {n : Nat} {nm : Names} {ρ ρ₁ : Rho} {σ σ₁ σ₂ : Nat} {t : Expr} {a b rest : List Stmt} {p : Pos} {r : Option (Fl × Nat)} (h : tst T glob n nm t ρ σ = some (false, σ₁)) (h1 : exs T glob n nm b ρ σ₁ = some (.next ρ₁, σ₂)) (h2 : exs T glob (n + 1) nm rest ρ₁ σ₂ = r) :
    exs T glob (n + 2) nm (.If t a b p :: rest) ρ σ = r := s_next (x_if_f h h1) h2
theorem s_assign5 {T : Tab} {n : Nat} {nm : Names} {ρ ρ₁ : Rho} {σ σ₁ : Nat} {a b c x y : Str} {pa pb pc px py : Pos} {k : Nat} {p q pe : Pos} {elt : Expr} {gs : List Comprehension} {sc : Scope} {d : D} {rest : List Stmt} {r : Option (Fl × Nat)} (h : ev T glob n nm (.ListComp elt gs sc pe) ρ σ = some (.d d, σ₁))
    (hb : bindT nm (.Tuple [.Name a pa, .Name b pb, .Name c pc, .Name x px, .Name y py] k p) d ρ = some ρ₁) (h1 : exs T glob (n + 1) nm rest ρ₁ σ₁ = r) : exs T glob (n + 2) nm (.Assign [.Tuple [.Name a pa, .Name b pb, .Name c pc, .Name x px, .Name y py] k p] (.ListComp elt gs sc pe) q :: rest) ρ σ = r := s_next (x_assignT h hb) h1
theorem law_go {cs : List Int} {ps : List Str} {st : Stmt} {b : List Stmt} {nm : Names} {v : D} {σ' : Nat} (hd : DEFS.lookup ("law" : Str) = some ⟨ps, st :: b, nm⟩) (he : exs (tab DEFS 7) glob 150 nm b [(("feed" : Str), .feed cs)] 0 = some (.ret (.d v), σ')) (hv : v = .bool true) :
    ∃ σ', exs (tab DEFS 7) glob FUEL lawD.names (lawD.body.drop 1) [(("feed" : Str), .feed cs)] 0 = some (.ret (.d (.bool true)), σ') := by
  refine ⟨σ', ?_⟩
  unfold lawD
  rw [hd, ← hv]
  exact he
section
local macro_rules | `(tactic| walk_at "tb") => `(tactic| with_reducible exact tab_ev)
local macro_rules | `(tactic| walk_at "ev1") => `(tactic| first
  | ((with_reducible apply r_truth); rfl) | ((with_reducible apply r_ask); walk_at "ev1") | (with_reducible first | exact q_isnot | exact many_some | exact many_no | exact many_one | exact many_lone | exact so_some | exact so_no | exact so_one | exact so_lone) | ((with_reducible apply rg_go); decide) | with_reducible apply s_assign5 | ((with_reducible apply s_for); walk_at "ev1") | (with_reducible first | apply o_range4 | apply o_enum4))
local macro_rules | `(tactic| walk_at "ev9") => `(tactic| first
  | with_reducible apply t_not_t | ((with_reducible apply s_if_t'); (focus ((repeat (walk_at "ev1")); done))) | ((with_reducible apply s_if_e); (focus ((repeat (walk_at "ev1")); done))))




theorem sub_rl {n m : Nat} {s : List Row} (h : s.Sublist (allR n m)) : Rl n m s := ⟨fun r hr => (mem_allR n m r).mp (h.subset hr), (rl_all n m).so.sublist h⟩
set_option maxHeartbeats 2000000 in
theorem law_runs {cs : List Int} (hc : cs.length < 64) : ∃ σ', exs (tab DEFS 7) glob FUEL lawD.names (lawD.body.drop 1) [(("feed" : Str), .feed cs)] 0 = some (.ret (.d (.bool true)), σ') := by
  obtain ⟨v, hv0, hv1, hv⟩ := draw_ok (cs := cs) (wide := 2) (σ := 0) (k := 6) (by decide) hc (by decide)
  obtain ⟨n, hn, hvn⟩ : ∃ n : Nat, (n = 2 ∨ n = 3) ∧ 2 + v = (n : Int) := by
    rcases (by omega : v = 0 ∨ v = 1) with rfl | rfl
    · exact ⟨2, .inl rfl, rfl⟩
    · exact ⟨3, .inr rfl, rfl⟩
  have hL1 : (allR n 1).length < 10 := by rw [len_allR]; rcases hn with rfl | rfl <;> decide
  have hL2 : (allR n 2).length < 10 := by rw [len_allR]; rcases hn with rfl | rfl <;> decide
  have hL3 : (allR n 3).length < 30 ∧ 0 < (allR n 3).length := by rw [len_allR]; rcases hn with rfl | rfl <;> decide
  have hb3 : ∀ step, 0 < step → step ≤ 5 → stepB (allR n 3) step = true := by rcases hn with rfl | rfl; exact all_b2; exact all_b3
  obtain ⟨a, sa, ea⟩ := some_1 (cs := cs) (n := (n : Int)) (L := allR n 1) (σ := 1) (k := 5) (fun σ => all_ok (m := 1) hn (by omega)) hL1 hc (by decide)
  obtain ⟨b, sb, eb⟩ := some_1 (cs := cs) (n := (n : Int)) (L := allR n 1) (σ := 2) (k := 5) (fun σ => all_ok (m := 1) hn (by omega)) hL1 hc (by decide)
  obtain ⟨r, sr, er⟩ := some_2 (cs := cs) (n := (n : Int)) (L := allR n 2) (σ := 3) (k := 5) (fun σ => all_ok (m := 2) hn (by omega)) hL2 hc (by decide)
  obtain ⟨q, sq, eq⟩ := some_2 (cs := cs) (n := (n : Int)) (L := allR n 2) (σ := 4) (k := 5) (fun σ => all_ok (m := 2) hn (by omega)) hL2 hc (by decide)
  obtain ⟨t, st1, st2, et⟩ := some_3 (cs := cs) (n := (n : Int)) (L := allR n 3) (σ := 5) (k := 5) (fun σ => all_ok (m := 3) hn (by omega)) hL3.1 hL3.2 ((rl_all n 3).ne (by omega)) hb3 hc (by decide)
  have ha := sub_rl sa
  have hb := sub_rl sb
  have hr := sub_rl sr
  have hq := sub_rl sq
  have ht : Rl n 3 t := ⟨fun x hx => (mem_allR n 3 x).mp (st2 x hx), st1⟩
  clear sa sb sr sq st1 st2 hL1 hL2 hL3 hb3
  have m0 : tab DEFS 7 "_law_is_made" [.ev n [R a, R b, R r, R q, R t], .d (.str "union"), .d (R r), .d (R q), .d (.int 2), .d (.int 2)] 8 = some (.d (.bool true), 8) := made_union (m := 2) (o := 2) hn (by omega) hr hq
  have m1 : tab DEFS 7 "_law_is_made" [.ev n [R a, R b, R r, R q, R t], .d (.str "union"), .d (R a), .d (R b), .d (.int 1), .d (.int 1)] 8 = some (.d (.bool true), 8) := made_union (m := 1) (o := 1) hn (by omega) ha hb
  have m2 : tab DEFS 7 "_law_is_made" [.ev n [R a, R b, R r, R q, R t], .d (.str "meet"), .d (R r), .d (R q), .d (.int 2), .d (.int 2)] 8 = some (.d (.bool true), 8) := made_meet (m := 2) (o := 2) hn (by omega) hr hq
  have m3 : tab DEFS 7 "_law_is_made" [.ev n [R a, R b, R r, R q, R t], .d (.str "meet"), .d (R a), .d (R b), .d (.int 1), .d (.int 1)] 8 = some (.d (.bool true), 8) := made_meet (m := 1) (o := 1) hn (by omega) ha hb
  have m4 : tab DEFS 7 "_law_is_made" [.ev n [R a, R b, R r, R q, R t], .d (.str "minus"), .d (R r), .d (R q), .d (.int 2), .d (.int 2)] 8 = some (.d (.bool true), 8) := made_minus (m := 2) (o := 2) hn (by omega) hr hq
  have m5 : tab DEFS 7 "_law_is_made" [.ev n [R a, R b, R r, R q, R t], .d (.str "minus"), .d (R a), .d (R b), .d (.int 1), .d (.int 1)] 8 = some (.d (.bool true), 8) := made_minus (m := 1) (o := 1) hn (by omega) ha hb
  have m6 : tab DEFS 7 "_law_is_made" [.ev n [R a, R b, R r, R q, R t], .d (.str "join"), .d (R r), .d (R q), .d (.int 2), .d (.int 2)] 8 = some (.d (.bool true), 8) := made_join (b := 2) hn (by omega) hr hq
  have m7 : tab DEFS 7 "_law_is_made" [.ev n [R a, R b, R r, R q, R t], .d (.str "join"), .d (R r), .d (R t), .d (.int 2), .d (.int 3)] 8 = some (.d (.bool true), 8) := made_join (b := 3) hn (by omega) hr ht
  have m8 : tab DEFS 7 "_law_is_made" [.ev n [R a, R b, R r, R q, R t], .d (.str "product"), .d (R r), .d (R b), .d (.int 2), .d (.int 1)] 8 = some (.d (.bool true), 8) := made_product (a := 2) (b := 1) hn (by omega) hr hb
  have m9 : tab DEFS 7 "_law_is_made" [.ev n [R a, R b, R r, R q, R t], .d (.str "product"), .d (R a), .d (R q), .d (.int 1), .d (.int 2)] 8 = some (.d (.bool true), 8) := made_product (a := 1) (b := 2) hn (by omega) ha hq
  have m10 : tab DEFS 7 "_law_is_made" [.ev n [R a, R b, R r, R q, R t], .d (.str "override"), .d (R r), .d (R q), .d (.int 2), .d (.int 2)] 8 = some (.d (.bool true), 8) := made_override (m := 2) (o := 2) hn (by omega) hr hq
  have m11 : tab DEFS 7 "_law_is_made" [.ev n [R a, R b, R r, R q, R t], .d (.str "override"), .d (R a), .d (R b), .d (.int 1), .d (.int 1)] 8 = some (.d (.bool true), 8) := made_override (m := 1) (o := 1) hn (by omega) ha hb
  have m12 : tab DEFS 7 "_law_is_made" [.ev n [R a, R b, R r, R q, R t], .d (.str "ahead"), .d (R a), .d (R q), .d (.int 1), .d (.int 2)] 8 = some (.d (.bool true), 8) := made_ahead (m := 2) (a := 1) (o := 1) hn (by omega) (by omega) ha hq
  have m13 : tab DEFS 7 "_law_is_made" [.ev n [R a, R b, R r, R q, R t], .d (.str "ahead"), .d (R b), .d (R t), .d (.int 1), .d (.int 3)] 8 = some (.d (.bool true), 8) := made_ahead (m := 3) (a := 1) (o := 1) hn (by omega) (by omega) hb ht
  have m14 : tab DEFS 7 "_law_is_made" [.ev n [R a, R b, R r, R q, R t], .d (.str "behind"), .d (R r), .d (R b), .d (.int 2), .d (.int 1)] 8 = some (.d (.bool true), 8) := made_behind (m := 2) (a := 1) (o := 1) hn (by omega) (by omega) hr hb
  have m15 : tab DEFS 7 "_law_is_made" [.ev n [R a, R b, R r, R q, R t], .d (.str "behind"), .d (R t), .d (R a), .d (.int 3), .d (.int 1)] 8 = some (.d (.bool true), 8) := made_behind (m := 3) (a := 1) (o := 1) hn (by omega) (by omega) ht ha
  have k1 : tab DEFS 7 "_law_are_kept" [.ev n [R a, R b, R r, R q, R t], .d (R a), .d (R b), .d (R r), .d (R q), .d (R t)] 8 = some (.d (.bool true), 8) := kept hn ha hb hr hq ht
  have c1 : tab DEFS 7 "_law_are_counted" [.ev n [R a, R b, R r, R q, R t], .d (R a), .d (R b), .d (R r), .d (R q)] 8 = some (.d (.bool true), 8) := counted (k := 1) hn ha hb hr hq
  apply law_go rfl
  · apply s_assign
    · rfl
    · walk_at "ev"
    rw [hvn]
    walk_at "ev"
    · exact Nat.le_of_ble_eq_true rfl
    walk_at "ev"
  · rfl

end

end Mine
end

section
open PySem PySem.W PyProof.Rows
namespace Mine
theorem kfacts (P : Params) : KFacts (early.heap_1 P) := { names := by kernel_rfl, ops := by kernel_rfl, rows := by kernel_rfl, lib := by kernel_rfl, same := by kernel_rfl, keep := by kernel_rfl, dict := by kernel_rfl, own := by kernel_rfl, meth := by kernel_rfl, makes := by kernel_rfl, over := by kernel_rfl, setter := by kernel_rfl, taker := by kernel_rfl, initT := by kernel_rfl, sigs := by kernel_rfl, binds := fun _ _ _ _ _ _ => by kernel_rfl }
/-- a place at which the walk halts -/
inductive Halt (p : Prop) : Prop
  | mk (h : p)
theorem halt {p : Prop} (h : Halt p) : p := h.1
end Mine
local macro_rules | `(tactic| walk_at "execs cons") => `(tactic| (
  (fail_if_success (with_reducible show wpAny _ _ (execs (Stmt.Assign [Expr.Name (PySem.Str.ofString "feed") _] _ _ :: _) _) _ _ _))
  k_dflt (refine Mine.guard_rest2 rfl ?_)
  refine Mine.halt ?_))
set_option maxRecDepth 100000 in
set_option maxHeartbeats 8000000 in
theorem PySem.Challenge.cw_rr0085_01_holds : PySem.Challenge.rw_rr0085_01.Holds := by
  w_on; (refine holds_law Mine.said0 fun said => ?_); (refine' Mine.head_open (kHook Mine.early.heap_1 Mine.AS Mine.asOk) ?hst Mine.hl0 ?hk said ?hw ?hc); (case hst => exact rfl); (case hk => exact rfl); (case hw => w_witness2); clear said
  w_strict (
    k_fill
    (intro w s₀ s₁ mg mb G Y fa o pm cd doc dV kV ho hd hcd hD hmg hg args vals as hpre hlay hrd hwl hlo)
    (have KX := kIn_of Y)
    (have V := (Ground.X G).2)
    (have GL := glob_more (Ground.glob G (by decide +kernel) (by decide +kernel)) V)
    (refine Ground.open G ?_)
    (intro T B D TE TW)
    (refine guard_noD D (by decide +kernel) ?_)
    clear D
    (obtain ⟨_, _, M⟩ := bmod_of_top T)
    (have TA := at_of_top T)
    (obtain ⟨d9, hd9⟩ := Option.isSome_iff_exists.mp Mine.hfind1)
    (obtain ⟨_, _, he, B0⟩ := based_of_top T hd9 hmg ho hd)
    (have he' : cd = _ := he)
    subst he'
    (clear he hmg hd9)
    (wrow_args hpre hlay hrd hwl hlo)
    all_goals (
      (refine enter_call ?_)
      (w_top on)
      (try refine codeAny_mono ?_ (fun _ _ g => GoodW.toG g))
      (have K0 := below_caller (Top.heap T))
      (w_call any ho hd hcd hD T F)
      (clear hd TA)
      k_drop)
    (all_goals try k_fold)
    k_steps)
  refine ⟨?_⟩
  (refine' Mine.law_rest2 ?hst (Mine.kfacts _) ?x9 ?hg ?hb ?hl ?hbt ?hF ?hN ?hd1 ?hd2 ?hd3 ?hI ?hlen ?hq1 ?hq2 ?e1 ?e2 ?e3 ?e4 ?he5 ?he6 ?hR Mine.law_runs ?hQ)
  (case hst => exact rfl)
  (case x9 => assumption)
  (case hg => exact Top.g (by assumption))
  (case hb => exact Top.b (by assumption))
  (case hl => exact Top.nolimit (by assumption))
  (case hbt => exact Top.builtins (by assumption))
  (case hF => assumption)
  (case hN => assumption)
  (case hd1 => assumption)
  (case hd2 => assumption)
  (case hd3 => assumption)
  (case hI => assumption)
  (case hlen => (simp only [List.length_map, List.length_take]; omega))
  (case hq1 => assumption)
  (case hq2 => assumption)
  (case e1 => exact rfl)
  (case e2 => exact rfl)
  (case e3 => exact rfl)
  (case e4 => exact rfl)
  (case he5 => exact rfl)
  (case he6 => exact fun _ => rfl)
  (case hR => exact ⟨rfl, Nat.le_of_ble_eq_true rfl, Nat.le_of_ble_eq_true rfl⟩)
  (case hQ =>
    intro h' tk kp
    (refine Mine.good_true ?ga ?gb kp rfl ?gc)
    (case ga => intro cls; rfl)
    (case gb => with_unfolding_all rfl)
    (case gc => assumption))
end
