import PyProof.Rows.All
import Wide.All
import OpenK.AllK
import Wide.FinOn
import PySem.Challenge.RW_on0025_01
set_option maxRecDepth 100000
set_option maxHeartbeats 0
set_option Elab.async false
set_option compiler.extract_closed false
set_option linter.all false
namespace Mine
section
open PySem PySem.W PyProof.Rows
noncomputable def runT (tb : String → Option Builtin) (p : Program) (w : World) (n₀ : Nat) (ann : Option Value) : Nat → SharedT → Thread → Option SharedT
  | 0, _, _ => none
  | n + 1, s, t => match through t with
    | true => some s
    | false => match stepOk n₀ ann t with
      | false => none
      | true => match stepT (denote tb) p w s t with
        | some (s', t') => runT tb p w n₀ ann n s' t'
        | none => none
theorem runT_of {tb : String → Option Builtin} {p : Program} {w : World} {n₀ : Nat} {ann : Option Value} : ∀ {n : Nat} {s s' : SharedT} {t : Thread}, runT tb p w n₀ ann n s t = some s' → topRun tb p w n₀ ann n s.abs t = some s'.abs
  | 0, _, _, _, h => by cases h
  | n + 1, s, s', t, h => by
    unfold runT at h
    unfold topRun
    cases he : through t with
    | true => rw [he] at h; cases h; rfl
    | false =>
      rw [he] at h
      cases hk : stepOk n₀ ann t with
      | false => rw [hk] at h; cases h
      | true =>
        rw [hk] at h
        cases hs : stepT (denote tb) p w s t with
        | none => rw [hs] at h; cases h
        | some r => obtain ⟨s₂, t₂⟩ := r; rw [hs] at h; rw [stepT_spec hs]; exact runT_of h
noncomputable def runQ (tb : String → Option Builtin) (p : Program) (w : World) (n₀ : Nat) (ann : Option Value) : Nat → SharedT → Thread → Option SharedT
  | 0, _, _ => none
  | n + 1, s, t => match through t with
    | true => some s
    | false => match PySem.W.Fast.tw6613529449190102663 n₀ ann t with
      | false => none
      | true => match PySem.W.Fast.tw10156331382660048174 (PySem.W.Fast.tw11892475500146522536 tb) p w s t with
        | some (s', t') => runQ tb p w n₀ ann n s' t'
        | none => none
theorem runQ_eq {p : Program} {w : World} {n₀ : Nat} {ann : Option Value} : ∀ {n : Nat} {s : SharedT} {t : Thread}, runT treeTable p w n₀ ann n s t = runQ PySem.W.Fast.tw14364793385576792824 p w n₀ ann n s t
  | 0, _, _ => rfl
  | n + 1, s, t => by
    unfold runT runQ
    rw [PySem.W.Fast.te6613529449190102663, PySem.W.Fast.te10156331382660048174, PySem.W.Fast.te11892475500146522536, ← PySem.W.Fast.te14364793385576792824]
    cases through t with
    | true => rfl
    | false =>
      cases PySem.W.Fast.tw6613529449190102663 n₀ ann t with
      | false => rfl
      | true =>
        cases PySem.W.Fast.tw10156331382660048174 (PySem.W.Fast.tw11892475500146522536 treeTable) p w s t with
        | none => rfl
        | some r => exact runQ_eq.trans (by rw [PySem.W.Fast.te14364793385576792824])
noncomputable def toBT : List Obj → Nat → BT → BT
  | [], _, T => T
  | o :: r, i, T => toBT r (i + 1) (T.ins i o)
theorem leftT {p q : Program} {loose : List Str} {Xt : Shared → Bool} {α : Type} {Yf : Shared → α} {Ya : World → α} {N : Nat} {g0 : Bool} {T₀ : Params → BT} {m₀ : Nat} {life : Life} {d₀ : Drawn} {k₀ : Nat} {ann : Option Value}
    (open_ : ∀ w : World, (fencedOpening treeTable p w N).map (fun s => (s.heap, s.gens, s.drawn, s.toks)) = some (absHeap (T₀ w.params) m₀ life, Array.mk [], d₀, k₀))
    (size : ∀ w : World, ((absHeap (T₀ w.params) m₀ life).isNs mainGlobals, (absHeap (T₀ w.params) m₀ life).nsMap mainGlobals "__annotations__") = (true, ann))
    (l1 : ∀ (w : World) (os : OsState), (runT treeTable p w m₀ ann N ⟨T₀ w.params, m₀, life, Array.mk [], d₀, k₀, os⟩ (topStub p)).map (fun s => ((staticsOk (importedModules p.main.body) (absHeap (T₀ w.params) m₀ life) s.abs.heap && namesBound p s.abs.heap && gensDone s.abs && laidKept (absHeap (T₀ w.params) m₀ life) s.abs.heap), openSeen q loose (importedModules p.main.body) Xt g0 s.abs)) = some (true, openGood q loose))
    (l2 : ∀ (w : World) (os : OsState), (runT treeTable p w m₀ ann N ⟨T₀ w.params, m₀, life, Array.mk [], d₀, k₀, os⟩ (topStub p)).map (fun s => Yf s.abs) = some (Ya w)) : LeftO p q loose Xt Yf Ya N g0 := fun w => by
  obtain ⟨⟨h, gs, d, k, os⟩, e, e'⟩ := Option.map_eq_some_iff.mp (open_ w)
  obtain ⟨rfl, rfl, rfl, rfl⟩ : h = absHeap (T₀ w.params) m₀ life ∧ gs = Array.mk [] ∧ d = d₀ ∧ k = k₀ := by simpa using e'
  obtain ⟨z1, z3⟩ : _ ∧ _ := by simpa only [Prod.mk.injEq] using size w
  obtain ⟨s, r, a⟩ := Option.map_eq_some_iff.mp (l1 w os)
  obtain ⟨s2, r2, b⟩ := Option.map_eq_some_iff.mp (l2 w os)
  obtain rfl : s = s2 := Option.some.inj (r.symm.trans r2)
  obtain ⟨a1, a2⟩ : _ ∧ _ := by simpa only [Prod.mk.injEq] using a
  have r := runT_of r
  have t : topFrom treeTable p w N ⟨absHeap (T₀ w.params) m₀ life, Array.mk [], d, k, os⟩ = some s.abs := by
    unfold topFrom
    dsimp only
    rw [z1, z3, absHeap_size]
    show (Option.bind (topRun treeTable p w m₀ ann N _ _) _) = _
    rw [show topRun treeTable p w m₀ ann N ⟨absHeap (T₀ w.params) m₀ life, Array.mk [], d, k, os⟩ (topStub p) = some s.abs from r]
    show (match staticsOk (importedModules p.main.body) (absHeap (T₀ w.params) m₀ life) s.abs.heap && namesBound p s.abs.heap && gensDone s.abs && laidKept (absHeap (T₀ w.params) m₀ life) s.abs.heap with | true => _ | false => _) = _
    rw [a1]
  unfold openEnds
  rw [e]
  show (topFrom treeTable p w N _).map _ = _
  rw [t]
  exact congrArg some (Prod.ext a2 b)
theorem leftU {p q : Program} {loose : List Str} {Xt : Shared → Bool} {α : Type} {Yf : Shared → α} {Ya : World → α} {N : Nat} {g0 : Bool} {T₀ : Params → BT} {m₀ : Nat} {life : Life} {d₀ : Drawn} {k₀ : Nat} {ann : Option Value}
    (open_ : ∀ w : World, (fencedOpening treeTable p w N).map (fun s => (s.heap, s.gens, s.drawn, s.toks)) = some (absHeap (T₀ w.params) m₀ life, Array.mk [], d₀, k₀))
    (size : ∀ w : World, ((absHeap (T₀ w.params) m₀ life).isNs mainGlobals, (absHeap (T₀ w.params) m₀ life).nsMap mainGlobals "__annotations__") = (true, ann))
    (l : ∀ (w : World) (os : OsState), (runQ PySem.W.Fast.tw14364793385576792824 p w m₀ ann N ⟨T₀ w.params, m₀, life, Array.mk [], d₀, k₀, os⟩ (topStub p)).map (fun s => (((staticsOk (importedModules p.main.body) (absHeap (T₀ w.params) m₀ life) s.abs.heap && namesBound p s.abs.heap && gensDone s.abs && laidKept (absHeap (T₀ w.params) m₀ life) s.abs.heap), PySem.W.Fast.tw4187177175401517315 q loose (importedModules p.main.body) Xt g0 s.abs), Yf s.abs)) = some ((true, openGood q loose), Ya w)) : LeftO p q loose Xt Yf Ya N g0 :=
  leftT open_ size (fun w os => by obtain ⟨s, e, e'⟩ := Option.map_eq_some_iff.mp (l w os); rw [runQ_eq, e, PySem.W.Fast.te4187177175401517315]; exact congrArg some (congrArg Prod.fst e')) (fun w os => by obtain ⟨s, e, e'⟩ := Option.map_eq_some_iff.mp (l w os); rw [runQ_eq, e]; exact congrArg some (congrArg Prod.snd e'))
noncomputable def bootT (P : Params) : BT := toBT (boot_heap P).objs.toList 0 .nil
noncomputable abbrev lif : Life := {}
theorem boot_eq (P : Params) : absHeap (bootT P) 11 lif = boot_heap P := by kernel_rfl
theorem boot_sz (w : World) : ((absHeap (bootT w.params) 11 lif).isNs mainGlobals, (absHeap (bootT w.params) 11 lif).nsMap mainGlobals "__annotations__") = (true, some (.ref 6)) := by kernel_rfl
noncomputable abbrev pw : Program := PySem.Challenge.pw_on0025_01
noncomputable def qv : Program := PySem.W.view pw [0, 2, 3, 4, 5, 6, 8, 9, 10, 12, 13, 14, 15, 16, 17, 18, 20, 22, 23, 24, 25, 26, 27, 28, 29, 30, 31, 32, 33, 34]
noncomputable abbrev lvv : List (Str × WData) := [(Str.ofString "MOST_ELEMENTS", WData.int 1048576)]
noncomputable abbrev lsv : List Str := [Str.ofString "ChanError", Str.ofString "MOST_ELEMENTS"]
noncomputable abbrev topS (w : World) (os : OsState) : Option SharedT := runT treeTable pw w 11 (some (.ref 6)) 6026 ⟨bootT w.params, 11, lif, Array.mk [], boot_drawn, boot_toks, os⟩ (topStub pw)
theorem opened : ∀ w : World, (fencedOpening treeTable pw w 6026).map (fun s => (s.heap, s.gens, s.drawn, s.toks)) = some (absHeap (bootT w.params) 11 lif, Array.mk [], boot_drawn, boot_toks) := fun w => by
  rw [boot_eq]
  exact boot_open (by rfl) (by rfl) (fun s => by rfl) w
theorem said1 : PySem.W.Fast.tw9446332074065402090 PySem.Challenge.rw_on0025_01 = true := by kernel_rfl
theorem said0 : OpenLaw.wellSaid PySem.Challenge.rw_on0025_01 = true := (congrFun PySem.W.Fast.te9446332074065402090 PySem.Challenge.rw_on0025_01).trans said1
local macro_rules | `(tactic| o_law) => `(tactic| refine holds_law Mine.said0 fun said => ?_)
local macro_rules | `(tactic| k_head) => `(tactic| x_head)
local macro_rules | `(tactic| o_head $H) => `(tactic| (
  refine holds_open (q := Mine.qv) (loose := lsv) (Xt := fun s => xlAt Mine.qv lvv s && recOk (RowW.records PySem.Challenge.rw_on0025_01.row.toRowW) s) (XP := XL Mine.qv lvv) (Yf := Hook.obs $H) (Ya := Hook.val $H) (YP := Hook.says $H) (N := 6026) (Mine.leftU Mine.opened Mine.boot_sz ?hl) (Hook.of $H) (Hook.keeps $H) (fun s e => xl_of s (Bool.and_eq_true_iff.mp e).1) XL.keeps (by rfl) (by rfl) (by rfl) (fun s e => recFacts_of (Bool.and_eq_true_iff.mp e).2) (by rfl) (by first | assumption | decide +kernel) (by decide +kernel) ⟨rfl, rfl, rfl, rfl, rfl, by decide +kernel⟩ ?hw ?hc
  case hl => (intro w os; kernel_rfl)))
open_top hd for PySem.Challenge.rw_on0025_01
end
section
open PySem PySem.W PySem.Calls PySem.Spec PyProof.Rows
noncomputable def entB (P : Params) (i : Nat) : DictEntry := (match (boot_o_0 P).data with | .dict es _ => es.toList | _ => []).getD i ⟨0, .none, .none⟩
noncomputable def mkB (P : Params) : Obj := { cls := .type "dict", data := .dict (Array.mk ((List.range 159).map fun i => DictEntry.mk (entB P i).hash (entB P i).key (entB P i).val)) 159 }
noncomputable def obF (a : Nat) (l : Frag) : Obj := @List.rec (Addr × Obj) (fun _ => Obj) default (fun p _ ih => @Bool.rec (fun _ => Obj) ih p.2 (Nat.beq p.1 a)) l
noncomputable def ob (P : Params) (a : Nat) : Obj := obF a (Mine.hd.heap_1 P)
noncomputable def kk : Params → Frag := fun P => List.cons (nat_lit 0, mkB P) (List.cons (nat_lit 1, ob P 1) (List.cons (nat_lit 2, ob P 2) (List.cons (nat_lit 3, ob P 3) (
  List.cons (nat_lit 4, ob P 4) (List.cons (nat_lit 5, ob P 5) (List.cons (nat_lit 6, ob P 6) (List.cons (nat_lit 7, ob P 7) (List.cons (nat_lit 8, ob P 8) (List.cons (nat_lit 9, ob P 9) (
  List.cons (nat_lit 10, ob P 10) (List.cons (nat_lit 11, ob P 11) (List.cons (nat_lit 12, ob P 12) (List.cons (nat_lit 13, ob P 13) (List.cons (nat_lit 14, ob P 14) (
  List.cons (nat_lit 15, ob P 15) (List.cons (nat_lit 16, ob P 16) (List.cons (nat_lit 17, ob P 17) (List.cons (nat_lit 18, ob P 18) (List.cons (nat_lit 19, ob P 19) (
  List.cons (nat_lit 20, ob P 20) (List.cons (nat_lit 21, ob P 21) (List.cons (nat_lit 22, ob P 22) (List.cons (nat_lit 29, ob P 29) (List.cons (nat_lit 30, ob P 30) (
  List.cons (nat_lit 31, ob P 31) (List.cons (nat_lit 32, ob P 32) (List.cons (nat_lit 33, ob P 33) (List.cons (nat_lit 34, ob P 34) (List.cons (nat_lit 35, ob P 35) (
  List.cons (nat_lit 36, ob P 36) (List.cons (nat_lit 37, ob P 37) (List.cons (nat_lit 38, ob P 38) (List.cons (nat_lit 39, ob P 39) (List.cons (nat_lit 40, ob P 40) (
  List.cons (nat_lit 43, ob P 43) (List.cons (nat_lit 50, ob P 50) (List.cons (nat_lit 51, ob P 51) (List.cons (nat_lit 52, ob P 52) (List.cons (nat_lit 55, ob P 55) (
  List.cons (nat_lit 62, ob P 62) (List.cons (nat_lit 63, ob P 63) (List.cons (nat_lit 64, ob P 64) (List.cons (nat_lit 65, ob P 65) (List.cons (nat_lit 66, ob P 66) (
  List.cons (nat_lit 67, ob P 67) (List.cons (nat_lit 68, ob P 68) (List.cons (nat_lit 69, ob P 69) (List.cons (nat_lit 70, ob P 70) (List.cons (nat_lit 71, ob P 71) (
  List.cons (nat_lit 74, ob P 74) (List.cons (nat_lit 75, ob P 75) (List.cons (nat_lit 76, ob P 76) (List.cons (nat_lit 77, ob P 77) (List.cons (nat_lit 78, ob P 78) (
  List.cons (nat_lit 79, ob P 79) (List.cons (nat_lit 80, ob P 80) (List.cons (nat_lit 81, ob P 81) (List.cons (nat_lit 82, ob P 82) (List.cons (nat_lit 83, ob P 83) (
  List.cons (nat_lit 84, ob P 84) (List.cons (nat_lit 85, ob P 85) (List.cons (nat_lit 86, ob P 86) (List.cons (nat_lit 87, ob P 87) (List.cons (nat_lit 88, ob P 88) (
  List.cons (nat_lit 89, ob P 89) (List.cons (nat_lit 90, ob P 90) (List.cons (nat_lit 91, ob P 91) (List.cons (nat_lit 92, ob P 92) (List.cons (nat_lit 93, ob P 93) (
  List.cons (nat_lit 94, ob P 94) (List.cons (nat_lit 95, ob P 95) (List.cons (nat_lit 96, ob P 96) (List.cons (nat_lit 97, ob P 97) (List.cons (nat_lit 98, ob P 98) (
  List.cons (nat_lit 99, ob P 99) (List.cons (nat_lit 100, ob P 100) (List.cons (nat_lit 101, ob P 101) (List.cons (nat_lit 102, ob P 102) (List.cons (nat_lit 103, ob P 103) (
  List.cons (nat_lit 104, ob P 104) (List.cons (nat_lit 105, ob P 105) (List.cons (nat_lit 106, ob P 106) (List.cons (nat_lit 107, ob P 107) (List.cons (nat_lit 108, ob P 108) (
  List.cons (nat_lit 109, ob P 109) (List.cons (nat_lit 110, ob P 110) (List.cons (nat_lit 111, ob P 111) (List.cons (nat_lit 112, ob P 112) (List.cons (nat_lit 113, ob P 113) (
  List.cons (nat_lit 114, ob P 114) (List.cons (nat_lit 115, ob P 115) (List.cons (nat_lit 123, ob P 123) (List.cons (nat_lit 124, ob P 124) (List.cons (nat_lit 125, ob P 125) (
  List.cons (nat_lit 126, ob P 126) (List.cons (nat_lit 127, ob P 127) (List.cons (nat_lit 128, ob P 128) (List.cons (nat_lit 129, ob P 129) (List.cons (nat_lit 130, ob P 130) (
  List.cons (nat_lit 131, ob P 131) (List.cons (nat_lit 132, ob P 132) (List.cons (nat_lit 133, ob P 133) (List.cons (nat_lit 134, ob P 134) (List.cons (nat_lit 135, ob P 135) (
  List.cons (nat_lit 136, ob P 136) (List.cons (nat_lit 137, ob P 137) (List.cons (nat_lit 138, ob P 138) (List.cons (nat_lit 139, ob P 139) (List.cons (nat_lit 140, ob P 140) (
  List.cons (nat_lit 141, ob P 141) (List.cons (nat_lit 142, ob P 142) (List.cons (nat_lit 143, ob P 143) (List.cons (nat_lit 144, ob P 144) (List.cons (nat_lit 145, ob P 145) (
  List.cons (nat_lit 146, ob P 146) (List.cons (nat_lit 147, ob P 147) (List.cons (nat_lit 148, ob P 148) (List.cons (nat_lit 149, ob P 149) (List.cons (nat_lit 150, ob P 150) (
  List.cons (nat_lit 151, ob P 151) (List.cons (nat_lit 152, ob P 152) (List.cons (nat_lit 153, ob P 153) (List.cons (nat_lit 163, ob P 163) (List.cons (nat_lit 164, ob P 164) (
  List.cons (nat_lit 165, ob P 165) (List.cons (nat_lit 166, ob P 166) (List.cons (nat_lit 167, ob P 167) (List.cons (nat_lit 168, ob P 168) (List.cons (nat_lit 169, ob P 169) (
  List.cons (nat_lit 170, ob P 170) (List.cons (nat_lit 171, ob P 171) (List.cons (nat_lit 172, ob P 172) (List.cons (nat_lit 173, ob P 173) (List.cons (nat_lit 174, ob P 174) (
  List.cons (nat_lit 175, ob P 175) (List.cons (nat_lit 176, ob P 176) (List.cons (nat_lit 177, ob P 177) (List.cons (nat_lit 178, ob P 178) (List.cons (nat_lit 179, ob P 179) (
  List.cons (nat_lit 180, ob P 180) (List.cons (nat_lit 181, ob P 181) (List.cons (nat_lit 182, ob P 182) (List.cons (nat_lit 183, ob P 183) (List.cons (nat_lit 184, ob P 184) (
  List.cons (nat_lit 185, ob P 185) (List.cons (nat_lit 186, ob P 186) (List.cons (nat_lit 187, ob P 187) (List.cons (nat_lit 188, ob P 188) (List.cons (nat_lit 189, ob P 189) (
  List.cons (nat_lit 190, ob P 190) (List.cons (nat_lit 191, ob P 191) (List.cons (nat_lit 192, ob P 192) (List.cons (nat_lit 193, ob P 193) (List.cons (nat_lit 194, ob P 194) (
  List.cons (nat_lit 195, ob P 195) (List.cons (nat_lit 196, ob P 196) (List.cons (nat_lit 197, ob P 197) (List.cons (nat_lit 198, ob P 198) (List.cons (nat_lit 199, ob P 199) (
  List.cons (nat_lit 200, ob P 200) (List.cons (nat_lit 201, ob P 201) (List.cons (nat_lit 202, ob P 202) (List.cons (nat_lit 203, ob P 203) (List.cons (nat_lit 204, ob P 204) (
  List.cons (nat_lit 205, ob P 205) (List.cons (nat_lit 206, ob P 206) (List.cons (nat_lit 207, ob P 207) (List.cons (nat_lit 208, ob P 208) (List.cons (nat_lit 209, ob P 209) (
  List.cons (nat_lit 210, ob P 210) (List.cons (nat_lit 211, ob P 211) (List.cons (nat_lit 212, ob P 212) (List.cons (nat_lit 213, ob P 213) (List.cons (nat_lit 214, ob P 214) (
  List.cons (nat_lit 215, ob P 215) (List.cons (nat_lit 216, ob P 216) (List.cons (nat_lit 217, ob P 217) (List.cons (nat_lit 218, ob P 218) (List.cons (nat_lit 219, ob P 219) (
  List.cons (nat_lit 220, ob P 220) (List.cons (nat_lit 221, ob P 221) (List.cons (nat_lit 222, ob P 222) (List.cons (nat_lit 223, ob P 223) (List.cons (nat_lit 224, ob P 224) (
  List.cons (nat_lit 225, ob P 225) (List.cons (nat_lit 226, ob P 226) (List.cons (nat_lit 227, ob P 227) (List.cons (nat_lit 228, ob P 228) (List.cons (nat_lit 229, ob P 229) (
  List.cons (nat_lit 230, ob P 230) (List.cons (nat_lit 231, ob P 231) (List.cons (nat_lit 232, ob P 232) (List.cons (nat_lit 233, ob P 233) (List.cons (nat_lit 234, ob P 234) (
  List.cons (nat_lit 235, ob P 235) (List.cons (nat_lit 236, ob P 236) (List.cons (nat_lit 237, ob P 237) (List.cons (nat_lit 238, ob P 238) (List.cons (nat_lit 239, ob P 239) (
  List.cons (nat_lit 240, ob P 240) (List.cons (nat_lit 241, ob P 241) (List.cons (nat_lit 242, ob P 242) (List.cons (nat_lit 243, ob P 243) (List.cons (nat_lit 244, ob P 244) (
  List.cons (nat_lit 245, ob P 245) (List.cons (nat_lit 246, ob P 246) (List.cons (nat_lit 247, ob P 247) (List.cons (nat_lit 248, ob P 248) (List.cons (nat_lit 249, ob P 249) (
  List.cons (nat_lit 250, ob P 250) (List.cons (nat_lit 251, ob P 251) (List.cons (nat_lit 252, ob P 252) (List.cons (nat_lit 253, ob P 253) (List.cons (nat_lit 254, ob P 254) (
  List.cons (nat_lit 255, ob P 255) (List.cons (nat_lit 256, ob P 256) (List.cons (nat_lit 257, ob P 257) (List.cons (nat_lit 258, ob P 258) (List.cons (nat_lit 259, ob P 259) (
  List.cons (nat_lit 260, ob P 260) (List.cons (nat_lit 261, ob P 261) (List.cons (nat_lit 262, ob P 262) (List.cons (nat_lit 263, ob P 263) (List.cons (nat_lit 264, ob P 264) (
  List.cons (nat_lit 265, ob P 265) (List.cons (nat_lit 266, ob P 266) (List.cons (nat_lit 267, ob P 267) (List.cons (nat_lit 268, ob P 268) (List.cons (nat_lit 269, ob P 269) (
  List.cons (nat_lit 270, ob P 270) (List.cons (nat_lit 271, ob P 271) (List.cons (nat_lit 272, ob P 272) (List.cons (nat_lit 273, ob P 273) (List.cons (nat_lit 274, ob P 274) (
  List.cons (nat_lit 275, ob P 275) (List.cons (nat_lit 276, ob P 276) (List.cons (nat_lit 277, ob P 277) (List.cons (nat_lit 287, ob P 287) (List.cons (nat_lit 288, ob P 288) (
  List.cons (nat_lit 289, ob P 289) (List.cons (nat_lit 290, ob P 290) (List.cons (nat_lit 291, ob P 291) (List.cons (nat_lit 292, ob P 292) (List.cons (nat_lit 293, ob P 293) (
  List.cons (nat_lit 294, ob P 294) (List.cons (nat_lit 295, ob P 295) (List.cons (nat_lit 296, ob P 296) (List.cons (nat_lit 297, ob P 297) (List.cons (nat_lit 298, ob P 298) (
  List.cons (nat_lit 299, ob P 299) (List.cons (nat_lit 300, ob P 300) (List.cons (nat_lit 301, ob P 301) (List.cons (nat_lit 302, ob P 302) (List.cons (nat_lit 303, ob P 303) (
  List.cons (nat_lit 313, ob P 313) (List.cons (nat_lit 314, ob P 314) (List.cons (nat_lit 315, ob P 315) (List.cons (nat_lit 316, ob P 316) (List.cons (nat_lit 317, ob P 317) (
  List.cons (nat_lit 318, ob P 318) (List.cons (nat_lit 319, ob P 319) (List.cons (nat_lit 320, ob P 320) (List.cons (nat_lit 321, ob P 321) (List.cons (nat_lit 322, ob P 322) (
  List.cons (nat_lit 323, ob P 323) (List.cons (nat_lit 324, ob P 324) (List.cons (nat_lit 325, ob P 325) (List.cons (nat_lit 326, ob P 326) (List.cons (nat_lit 327, ob P 327) (
  List.cons (nat_lit 328, ob P 328) (List.cons (nat_lit 329, ob P 329) (List.cons (nat_lit 330, ob P 330) (List.cons (nat_lit 331, ob P 331) (List.cons (nat_lit 334, ob P 334) (
  List.cons (nat_lit 335, ob P 335) (List.cons (nat_lit 336, ob P 336) (List.cons (nat_lit 337, ob P 337) (List.cons (nat_lit 338, ob P 338) (List.cons (nat_lit 339, ob P 339) (
  List.cons (nat_lit 340, ob P 340) (List.cons (nat_lit 341, ob P 341) (List.cons (nat_lit 342, ob P 342) (List.cons (nat_lit 343, ob P 343) (List.cons (nat_lit 344, ob P 344) (
  List.cons (nat_lit 345, ob P 345) (List.cons (nat_lit 346, ob P 346) (List.cons (nat_lit 347, ob P 347) (List.cons (nat_lit 348, ob P 348) (List.cons (nat_lit 349, ob P 349) (
  List.cons (nat_lit 350, ob P 350) (List.cons (nat_lit 351, ob P 351) (List.cons (nat_lit 352, ob P 352) (List.cons (nat_lit 353, ob P 353) (List.cons (nat_lit 354, ob P 354) (
  List.cons (nat_lit 355, ob P 355) (List.cons (nat_lit 356, ob P 356) (List.cons (nat_lit 357, ob P 357) (List.cons (nat_lit 358, ob P 358) (List.cons (nat_lit 359, ob P 359) (
  List.cons (nat_lit 360, ob P 360) (List.cons (nat_lit 361, ob P 361) (List.cons (nat_lit 362, ob P 362) (List.cons (nat_lit 363, ob P 363) (List.cons (nat_lit 364, ob P 364) (
  List.cons (nat_lit 365, ob P 365) (List.cons (nat_lit 366, ob P 366) (List.cons (nat_lit 367, ob P 367) (List.cons (nat_lit 368, ob P 368) (List.cons (nat_lit 369, ob P 369) (
  List.cons (nat_lit 370, ob P 370) (List.cons (nat_lit 371, ob P 371) (List.cons (nat_lit 372, ob P 372) (List.cons (nat_lit 373, ob P 373) (List.cons (nat_lit 374, ob P 374) (
  List.cons (nat_lit 375, ob P 375) (List.cons (nat_lit 376, ob P 376) (List.cons (nat_lit 378, ob P 378) (List.cons (nat_lit 379, ob P 379) (List.cons (nat_lit 380, ob P 380) (
  List.cons (nat_lit 381, ob P 381) (List.cons (nat_lit 382, ob P 382) (List.cons (nat_lit 383, ob P 383) (List.cons (nat_lit 384, ob P 384) (List.cons (nat_lit 385, ob P 385) (
  List.cons (nat_lit 386, ob P 386) (List.cons (nat_lit 387, ob P 387) (List.cons (nat_lit 388, ob P 388) (List.cons (nat_lit 389, ob P 389) (List.cons (nat_lit 390, ob P 390) (
  List.cons (nat_lit 391, ob P 391) (List.cons (nat_lit 392, ob P 392) (List.cons (nat_lit 393, ob P 393) (List.cons (nat_lit 395, ob P 395) (List.cons (nat_lit 396, ob P 396) (
  List.cons (nat_lit 397, ob P 397) (List.cons (nat_lit 398, ob P 398) (List.cons (nat_lit 399, ob P 399) (List.cons (nat_lit 400, ob P 400) (List.cons (nat_lit 401, ob P 401) (
  List.cons (nat_lit 402, ob P 402) (List.cons (nat_lit 403, ob P 403) (List.cons (nat_lit 404, ob P 404) (List.cons (nat_lit 405, ob P 405) (List.cons (nat_lit 406, ob P 406) (
  List.cons (nat_lit 407, ob P 407) (List.cons (nat_lit 409, ob P 409) (List.cons (nat_lit 410, ob P 410) (List.cons (nat_lit 411, ob P 411) (List.cons (nat_lit 412, ob P 412) (
  List.cons (nat_lit 414, ob P 414) (List.cons (nat_lit 415, ob P 415) (List.cons (nat_lit 416, ob P 416) (List.cons (nat_lit 417, ob P 417) (List.cons (nat_lit 418, ob P 418) ([])))))))))))))))))))))))))))))))))))))))))))))))))))))))))))))))))))))))))))))))))))))))))))))))))))))))))))))))))))))))))))))))))))))))))))))))))))))))))))))))))))))))))))))))))))))))))))))))))))))))))))))))))))))))))))))))))))))))))))))))))))))))))))))))))))))))))))))))))))))))))))))))))))))))))))))))))))))))))))))))))))))))))))))))))))))))))))))))))))
theorem kk_eq (P : Params) : kk P = (Mine.hd.heap_1 P).filter fun p => !([377, 394, 408, 413].contains p.1) := by kernel_rfl
theorem look_filter {q : Addr → Bool} : ∀ {K : Frag} {a : Addr} {o : Obj}, List.lookup a (K.filter fun p => q p.1) = some o → List.lookup a K = some o ∧ q a = true
  | [], _, _, h => nomatch h
  | (b, x) :: K, a, o, h => by
    by_cases z : q b = true
    · rw [List.filter_cons_of_pos (p := fun p : Addr × Obj => q p.1) (a := (b, x)) z, List.lookup_cons] at h
      rw [List.lookup_cons]
      cases e : a == b with
      | true =>
        rw [e] at h
        exact ⟨h, (eq_of_beq e) ▸ z⟩
      | false =>
        rw [e] at h
        exact look_filter h
    · rw [List.filter_cons_of_neg (p := fun p : Addr × Obj => q p.1) (a := (b, x)) z] at h
      obtain ⟨h1, h2⟩ := look_filter h
      rw [List.lookup_cons]
      cases e : a == b with
      | true => exact absurd ((eq_of_beq e) ▸ h2) z
      | false => exact ⟨h1, h2⟩
theorem ghost_KA {P : Params} {h₁ : Heap} (X : (Mine.hd.heap_1 P).In h₁) : (kk P).In (ghostOf h₁ [(379, 377), (398, 394), (410, 408), (417, 413)]) := fun a o e => by
  rw [kk_eq] at e
  obtain ⟨e1, e2⟩ := look_filter (q := fun a => !([377, 394, 408, 413].contains a)) e
  refine ghost_ne (X a o e1) fun hm => ?_
  rw [show ([377, 394, 408, 413] : List Addr).contains a = true from List.contains_iff_mem.mpr hm] at e2
  exact absurd e2 nofun
end
private theorem fill : ∀ w : PySem.World, (Mine.kk w.params) = (Mine.kk w.params) ∧ PySem.Challenge.rw_on0025_01 = PySem.Challenge.rw_on0025_01 := by
  k_fill
  exact fun _ => ⟨rfl, rfl⟩
local macro_rules | `(tactic| omega) => `(tactic| first | lia | (omega (splitDisjunctions := true)))
section
open PySem PySem.W PySem.Calls PySem.Spec PyProof.Rows

noncomputable abbrev HL := List (Addr × Obj)
noncomputable abbrev Mp := Str → Option Value
noncomputable def upd (m : Mp) (x : Str) (v : Value) : Mp := fun y => if y = x then some v else m y
theorem upd_same {m : Mp} {x : Str} {v : Value} : upd m x v x = some v := if_pos rfl
theorem upd_ne {m : Mp} {x y : Str} {v : Value} {r : Option Value} (h : y ≠ x) (e : m y = r) : upd m x v y = r := (if_neg h).trans e
noncomputable def emp : Mp := fun _ => none

structure Cst where
  w : World
  p : Program
  loose : List Str
  mean : ExcName → Option Value
  mg : Mp
  mb : Mp
  gens : Array GenState
  drawn : Drawn
  os : OsState
noncomputable abbrev KK (C : Cst) : Frag := Mine.kk C.w.params
noncomputable abbrev Cst.M (C : Cst) : Model := model PySem.Challenge.rw_on0025_01.prog C.w
noncomputable abbrev Cst.sh (C : Cst) (h : Heap) (tk : Nat) : Shared := ⟨h, C.gens, C.drawn, tk, C.os⟩

structure Fc where
  dp : Nat
  un : Nat
  cn : Str
  cs : Scope
  a : Addr
  ccd : Value
  cl : List (Str × Addr)
  outer : List Env
  A₀ : Around
  base : Heap
  h₀ : Heap
  L : Addr
noncomputable abbrev Fc.env (c : Fc) : Env := envX c.cn c.cs c.L c.a c.ccd c.cl
noncomputable abbrev Fc.A (c : Fc) : Around := { handled := none, depth := c.dp, frames := some (c.env :: c.outer), guards := some [], units := c.un }

noncomputable abbrev Fc.fs (c : Fc) : List Addr := c.outer.filterMap (·.frame)
structure Ok (C : Cst) (c : Fc) (n : Nat) : Prop where
  B₀ : Below c.A₀ c.base c.outer c.h₀
  D₀ : KtsDicts c.fs c.h₀
  XB : (KK C).In c.base
  TB : Top C.p C.loose C.mean C.mg C.mb c.base
  hk : c.cs.kind = .function
  hd : c.dp + 2 * n < recursionLimit
  hu : c.un + 10 * n < cLine
theorem Ok.le {C : Cst} {c : Fc} {n k : Nat} (O : Ok C c n) (h : k ≤ n) : Ok C c k :=
  ⟨O.B₀, O.D₀, O.XB, O.TB, O.hk, by have := O.hd; omega, by have := O.hu; omega⟩
theorem Ok.B {C : Cst} {c : Fc} {n : Nat} {g : Heap} (O : Ok C c n) (T : KtsTurn c.fs c.h₀ g) : Below c.A₀ c.base c.outer g :=
  ⟨O.B₀.stack, fun b o e => T.other b o (O.B₀.stays b o e) (fun hm => by
    rw [(O.B₀.frames.mem hm).1] at e
    cases e), O.B₀.frames.of_keeps fun b o e _ => by
    obtain ⟨sl', hs'⟩ := T.up e
    exact ⟨_, hs', rfl⟩⟩
theorem Ok.K {C : Cst} {c : Fc} {n : Nat} {g : Heap} (O : Ok C c n) (T : KtsTurn c.fs c.h₀ g) : (KK C).In g := O.XB.keeps (O.B T).stays
theorem Ok.T {C : Cst} {c : Fc} {n : Nat} {g : Heap} (O : Ok C c n) (T : KtsTurn c.fs c.h₀ g) : Top C.p C.loose C.mean C.mg C.mb g := O.TB.keeps (O.B T).stays
theorem Ok.D {C : Cst} {c : Fc} {n : Nat} {g : Heap} (O : Ok C c n) (T : KtsTurn c.fs c.h₀ g) : KtsDicts c.fs g := O.D₀.turn T

structure Led (g : Heap) (c : Fc) (h : Heap) (H : HL) : Prop where
  N : News g c.L h H
  nd : (H.map (·.1)).Nodup

noncomputable def Po (C : Cst) (c : Fc) {α : Type} (Q : α → Mp → HL → Prop) (v : α) (s : Shared) : Prop :=
  ∃ g h tk m H, KtsTurn c.fs c.h₀ g ∧ s = C.sh h tk ∧ Fr g c.L h m ∧ Led g c h H ∧ Q v m H
noncomputable def W (C : Cst) (c : Fc) {α : Type} (m : Mp) (H : HL) (t : Sem α) (Q : α → Mp → HL → Prop) : Prop :=
  ∀ g h tk, KtsTurn c.fs c.h₀ g → Fr g c.L h m → Led g c h H → wpAny C.M c.A t (Po C c Q) (fun _ _ => False) (C.sh h tk)

section
variable {C : Cst} {c : Fc} {α β : Type} {m : Mp} {H : HL}
theorem W.run {t : Sem α} {Q : α → Mp → HL → Prop} (x : W C c m H t Q) {g h : Heap} {tk : Nat} (T : KtsTurn c.fs c.h₀ g) (F : Fr g c.L h m) (N : Led g c h H) {Q' : α → Shared → Prop} {E : Value → Shared → Prop}
    (k : ∀ a g' h' tk' m' H', KtsTurn c.fs c.h₀ g' → Fr g' c.L h' m' → Led g' c h' H' → Q a m' H' → Q' a (C.sh h' tk')) : wpAny C.M c.A t Q' E (C.sh h tk) :=
  wpAny_mono (x g h tk T F N) (fun a s' p => by obtain ⟨g', h', tk', m', H', T', rfl, F', N', q⟩ := p; exact k a g' h' tk' m' H' T' F' N' q) fun _ _ e => e.elim
theorem Po.in {Q : α → Mp → HL → Prop} {v : α} {g h : Heap} {tk : Nat} (T : KtsTurn c.fs c.h₀ g) (F : Fr g c.L h m) (N : Led g c h H) (q : Q v m H) : Po C c Q v (C.sh h tk) := ⟨g, h, tk, m, H, T, rfl, F, N, q⟩
theorem W.mono {t : Sem α} {Q Q' : α → Mp → HL → Prop} (x : W C c m H t Q) (k : ∀ a m' H', Q a m' H' → Q' a m' H') : W C c m H t Q' :=
  fun _ _ _ T F N => x.run T F N fun a _ _ _ _ _ T' F' N' q => Po.in T' F' N' (k a _ _ q)
theorem W.pure {a : α} {Q : α → Mp → HL → Prop} (q : Q a m H) : W C c m H (Pure.pure a) Q := fun _ _ _ T F N => wpAny_pure (Po.in T F N q)
theorem W.bind {t : Sem α} {f : α → Sem β} {Q : β → Mp → HL → Prop} (x : W C c m H t fun a m' H' => W C c m' H' (f a) Q) : W C c m H (t >>= f) Q :=
  fun _ _ _ T F N => wpAny_bind (x.run T F N fun _ _ _ _ _ _ T' F' N' q => q _ _ _ T' F' N')
theorem Led.sub {g h : Heap} {H' : HL} (N : Led g c h H) (s : H'.Sublist H) : Led g c h H' := ⟨fun p hp => N.N p (s.subset hp), (s.map _).nodup N.nd⟩
theorem Led.perm {g h : Heap} {H' : HL} (N : Led g c h H) (s : H.Perm H') : Led g c h H' := ⟨fun p hp => N.N p (s.mem_iff.mpr hp), (s.map _).nodup_iff.mp N.nd⟩
theorem W.weak {H' : HL} {t : Sem α} {Q : α → Mp → HL → Prop} (s : H'.Sublist H) (x : W C c m H' t Q) : W C c m H t Q := fun _ _ _ T F N => x _ _ _ T F (N.sub s)
theorem W.perm {H' : HL} {t : Sem α} {Q : α → Mp → HL → Prop} (s : H.Perm H') (x : W C c m H' t Q) : W C c m H t Q := fun _ _ _ T F N => x _ _ _ T F (N.perm s)
theorem W.nd {t : Sem α} {Q : α → Mp → HL → Prop} (x : (H.map (·.1)).Nodup → W C c m H t Q) : W C c m H t Q := fun _ _ _ T F N => x N.nd _ _ _ T F N
theorem Led.get {g h : Heap} (N : Led g c h H) {a : Addr} {o : Obj} (e : (a, o) ∈ H) : h.get? a = some o := N.N.get e
theorem Led.set {g h h' : Heap} (N : Led g c h H) (hs : Heap.SameBut c.L h h') : Led g c h' H := ⟨N.N.set hs, N.nd⟩
theorem Led.push {g h : Heap} (F : Fr g c.L h m) (N : Led g c h H) (o : Obj) (hf : o.isFreed = false := by rfl) : Led g c (h.push o) ((h.objs.size, o) :: H) := by
  refine ⟨N.N.push F o hf, List.nodup_cons.mpr ⟨fun q => ?_, N.nd⟩⟩
  obtain ⟨p, hp, e⟩ := List.mem_map.mp q
  exact absurd (Heap.lt_size (N.N p hp).1) (by rw [e]; exact Nat.lt_irrefl _)

inductive At (a : Addr) (o o' : Obj) : HL → HL → Prop
  | head {r} : At a o o' ((a, o) :: r) ((a, o') :: r)
  | tail {p r r'} : At a o o' r r' → At a o o' (p :: r) (p :: r')
theorem At.split {a : Addr} {o o' : Obj} {H H' : HL} (x : At a o o' H H') : ∃ l r, H = l ++ (a, o) :: r ∧ H' = l ++ (a, o') :: r := by
  induction x with
  | @head r => exact ⟨[], r, rfl, rfl⟩
  | @tail p r r' _ ih => obtain ⟨l, r, e1, e2⟩ := ih; exact ⟨p :: l, r, by rw [e1]; rfl, by rw [e2]; rfl⟩
theorem At.mem {a : Addr} {o o' : Obj} {H H' : HL} (x : At a o o' H H') : (a, o) ∈ H := by
  induction x with
  | head => exact .head _
  | tail _ ih => exact .tail _ ih
theorem At.mem' {a : Addr} {o o' : Obj} {H H' : HL} (x : At a o o' H H') : (a, o') ∈ H' := by
  induction x with
  | head => exact .head _
  | tail _ ih => exact .tail _ ih
theorem At.keys {a : Addr} {o o' : Obj} {H H' : HL} (x : At a o o' H H') : H'.map (·.1) = H.map (·.1) := by
  induction x with
  | head => rfl
  | tail _ ih => simp [ih]
theorem At.app {a : Addr} {o o' : Obj} {H H' : HL} (l : HL) (x : At a o o' H H') : At a o o' (l ++ H) (l ++ H') := by
  induction l with
  | nil => exact x
  | cons p l ih => exact .tail ih
theorem At.appR {a : Addr} {o o' : Obj} {H H' : HL} (x : At a o o' H H') (r : HL) : At a o o' (H ++ r) (H' ++ r) := by
  induction x with
  | head => exact .head
  | tail _ ih => exact .tail ih
theorem Led.upd {g h : Heap} {H' : HL} {a : Addr} {o o' : Obj} {f : Obj → Obj} (F : Fr g c.L h m) (N : Led g c h H) (x : At a o o' H H') (e : f o = o') (hf : o'.isFreed = false) :
    Fr g c.L (h.update a f) m ∧ Led g c (h.update a f) H' := by
  have ks := x.keys
  obtain ⟨l, r, rfl, rfl⟩ := x.split
  have nd := N.nd
  simp only [List.map_append, List.map_cons] at nd
  have h1 : ∀ p ∈ l, p.1 ≠ a := fun p hp => (List.nodup_append.mp nd).2.2 p.1 (List.mem_map_of_mem hp) a (.head _)
  have h2 : ∀ p ∈ r, p.1 ≠ a := fun p hp q => (List.nodup_cons.mp (List.nodup_append.mp nd).2.1).1 (q ▸ List.mem_map_of_mem hp)
  obtain ⟨F', N'⟩ := news_upd F N.N h1 h2 e hf
  exact ⟨F', N', by rw [ks]; exact N.nd⟩
theorem Led.same {g h h' : Heap} {H' : HL} {a : Addr} {o o' : Obj} (F : Fr g c.L h m) (N : Led g c h H) (x : At a o o' H H') (hs : Heap.SameBut a h h') (ho : h'.get? a = some o') :
    Fr g c.L h' m ∧ Led g c h' H' := by
  have ks := x.keys
  obtain ⟨l, r, rfl, rfl⟩ := x.split
  have nd := N.nd
  simp only [List.map_append, List.map_cons] at nd
  have h1 : ∀ p ∈ l, p.1 ≠ a := fun p hp => (List.nodup_append.mp nd).2.2 p.1 (List.mem_map_of_mem hp) a (.head _)
  have h2 : ∀ p ∈ r, p.1 ≠ a := fun p hp q => (List.nodup_cons.mp (List.nodup_append.mp nd).2.1).1 (q ▸ List.mem_map_of_mem hp)
  have D := N.N (a, o) (by simp)
  refine ⟨F.change hs D.2.1 D.2.2, ⟨fun p hp => ?_, by rw [ks]; exact N.nd⟩⟩
  rcases List.mem_append.mp hp with q | q
  · have P := N.N p (List.mem_append_left _ q); exact ⟨(hs.2 _ (h1 p q)).trans P.1, P.2⟩
  · rcases List.mem_cons.mp q with rfl | q
    · exact ⟨ho, D.2⟩
    · have P := N.N p (List.mem_append_right _ (.tail _ q)); exact ⟨(hs.2 _ (h2 p q)).trans P.1, P.2⟩
structure Le (H' H : HL) : Prop where
  sub : ∀ p ∈ H', p ∈ H
  nd : (H.map (·.1)).Nodup → (H'.map (·.1)).Nodup
theorem Le.rfl {H : HL} : Le H H := ⟨fun _ h => h, fun h => h⟩
theorem Le.trans {H1 H2 H3 : HL} (x : Le H1 H2) (y : Le H2 H3) : Le H1 H3 := ⟨fun p h => y.sub p (x.sub p h), fun h => x.nd (y.nd h)⟩
theorem Le.of_sub {H1 H2 : HL} (x : H1.Sublist H2) : Le H1 H2 := ⟨fun _ h => x.subset h, fun h => (x.map _).nodup h⟩
theorem Le.of_perm {H1 H2 : HL} (x : H1.Perm H2) : Le H1 H2 := ⟨fun _ h => x.mem_iff.mp h, fun h => ((x.map _).nodup_iff).mpr h⟩
theorem Le.drop {p : Addr × Obj} {H1 H2 : HL} (x : Le H1 H2) : Le H1 (p :: H2) := x.trans (.of_sub (List.sublist_cons_self _ _))
theorem Le.dropA {X H1 H2 : HL} (x : Le H1 H2) : Le H1 (X ++ H2) := x.trans (.of_sub (List.sublist_append_right _ _))
theorem Le.nil {H : HL} : Le [] H := .of_sub (List.nil_sublist _)
theorem Le.app {X H1 H2 : HL} (x : Le H1 H2) : Le (X ++ H1) (X ++ H2) := by
  refine ⟨fun p h => ?_, fun h => ?_⟩
  · rcases List.mem_append.mp h with q | q
    · exact List.mem_append_left _ q
    · exact List.mem_append_right _ (x.sub p q)
  · rw [List.map_append] at h ⊢
    obtain ⟨h1, h2, h3⟩ := List.nodup_append.mp h
    refine List.nodup_append.mpr ⟨h1, x.nd h2, fun a ha b hb => h3 a ha b ?_⟩
    obtain ⟨p, hp, e⟩ := List.mem_map.mp hb
    exact List.mem_map.mpr ⟨p, x.sub p hp, e⟩
theorem Le.cons {p : Addr × Obj} {H1 H2 : HL} (x : Le H1 H2) : Le (p :: H1) (p :: H2) := Le.app (X := [p]) x
noncomputable def Pk (A H F : HL) : Prop := H.Perm (A ++ F)
theorem Pk.head {A F : HL} : Pk A (A ++ F) F := List.Perm.refl _
theorem Pk.one {p : Addr × Obj} {F : HL} : Pk [p] (p :: F) F := List.Perm.refl _
theorem Pk.sole {A : HL} : Pk A A [] := by unfold Pk; rw [List.append_nil]
theorem Pk.skip {p : Addr × Obj} {A H F : HL} (x : Pk A H F) : Pk A (p :: H) (p :: F) := (List.Perm.cons p x).trans List.perm_middle.symm
theorem Pk.skipA {X A H F : HL} (x : Pk A H F) : Pk A (X ++ H) (X ++ F) := by
  refine (List.Perm.append_left X x).trans ?_
  rw [← List.append_assoc, ← List.append_assoc]
  exact List.Perm.append_right F List.perm_append_comm
theorem Pk.inA {X X' A H : HL} (x : Pk A X X') : Pk A (X ++ H) (X' ++ H) := by
  refine (List.Perm.append_right H x).trans ?_
  rw [List.append_assoc]
theorem Pk.le {A H F : HL} (x : Pk A H F) : Le (A ++ F) H := .of_perm x.symm
theorem Le.pk {A H F H1 : HL} (x : Pk A H F) (y : Le H1 F) : Le (A ++ H1) H := (Le.app y).trans x.le
theorem Le.pk1 {p : Addr × Obj} {H F H1 : HL} (x : Pk [p] H F) (y : Le H1 F) : Le (p :: H1) H := (Le.app (X := [p]) y).trans x.le
theorem Led.le {g h : Heap} {H' : HL} (N : Led g c h H) (s : Le H' H) : Led g c h H' := ⟨fun p hp => N.N p (s.sub p hp), s.nd N.nd⟩
theorem W.le {H' : HL} {t : Sem α} {Q : α → Mp → HL → Prop} (s : Le H' H) (x : W C c m H' t Q) : W C c m H t Q := fun _ _ _ T F N => x _ _ _ T F (N.le s)
noncomputable def Dr (P : HL → Prop) (H : HL) : Prop := ∃ H', Le H' H ∧ P H'
theorem Dr.id {P : HL → Prop} {H : HL} (h : P H) : Dr P H := ⟨H, .rfl, h⟩
theorem W.dr {t : Sem α} {Q : α → Mp → HL → Prop} (x : W C c m H t fun v m1 H1 => Dr (Q v m1) H1) : W C c m H t Q := fun _ _ _ T F N => x.run T F N fun a _ _ _ _ _ T1 F1 N1 q => by
  obtain ⟨H2, l, q⟩ := q
  exact Po.in T1 F1 (N1.le l) q

end
end
section
open PySem PySem.W PySem.Calls PySem.Spec PyProof.Rows

noncomputable def SP (Qn : Mp → HL → Prop) (Qr : Value → Mp → HL → Prop) : Flow → Mp → HL → Prop
  | .next, m, H => Qn m H
  | .ret v, m, H => Qr v m H
  | _, _, _ => False

noncomputable abbrev tupOf (vs : List Value) : Obj := { cls := .type "tuple", data := .seq vs.toArray }
noncomputable abbrev lstOf (vs : List Value) (n : Nat) : Obj := listOf vs.toArray n

section
variable {C : Cst} {c : Fc} {α β : Type} {m : Mp} {H : HL} {env : Env} {n : Nat}

-- names
theorem W_local {x : Str} {pos : Pos} {v : Value} {Q : Value → Mp → HL → Prop} (h : Q v m H) (hx : some .local = c.env.kindOf x := by with_unfolding_all exact rfl) (hk : .function = c.cs.kind := by with_unfolding_all exact rfl) (hd : (x == ("__debug__" : Str)) = false := by with_unfolding_all decide) (hv : m x = some v := by k_extra "lk") :
    W C c m H (eval (.Name x pos) c.env) Q := fun _ _ _ T F N => nameX_L F hv (Po.in T F N h) hk.symm hx.symm hd
theorem W_cell {x : Str} {pos : Pos} {v : Value} {a : Addr} {o : Obj} {Q : Value → Mp → HL → Prop} (h : Q v m H) (hx : some .cell = c.env.kindOf x := by with_unfolding_all exact rfl) (hk : .function = c.cs.kind := by with_unfolding_all exact rfl) (hd : (x == ("__debug__" : Str)) = false := by with_unfolding_all decide) (hc : c.cl.lookup x = some a := by with_unfolding_all exact rfl) (hm : (a, o) ∈ H := by k_extra "mm") (ho : o.data = .cell (some v) := by assumption) :
    W C c m H (eval (.Name x pos) c.env) Q := fun _ _ _ T F N => nameX_C N.N hc hm ho (Po.in T F N h) hk.symm hx.symm hd
theorem W_free {x : Str} {pos : Pos} {v : Value} {a : Addr} {o : Obj} {Q : Value → Mp → HL → Prop} (h : Q v m H) (hx : some .free = c.env.kindOf x := by with_unfolding_all exact rfl) (hk : .function = c.cs.kind := by with_unfolding_all exact rfl) (hd : (x == ("__debug__" : Str)) = false := by with_unfolding_all decide) (hn : (x == ("__classdict__" : Str)) = false := by with_unfolding_all decide) (hc : c.cl.lookup x = some a := by with_unfolding_all exact rfl) (hm : (a, o) ∈ H := by k_extra "mm") (ho : o.data = .cell (some v) := by assumption) :
    W C c m H (eval (.Name x pos) c.env) Q := fun _ _ _ T F N => nameX_F N.N hc hm ho (Po.in T F N h) hk.symm hx.symm hd hn
theorem W_glob {x : Str} {pos : Pos} {v : Value} {Q : Value → Mp → HL → Prop} (h : Q v m H) (hx : some .globalImplicit = c.env.kindOf x := by with_unfolding_all exact rfl) (hk : .function = c.cs.kind := by with_unfolding_all exact rfl) (hd : (x == ("__debug__" : Str)) = false := by with_unfolding_all decide) (O : Ok C c n := by assumption) (e : nsIn (Mine.kk C.w.params) mainGlobals x = some (some v) := by with_unfolding_all k_is) :
    W C c m H (eval (.Name x pos) c.env) Q := fun _ _ _ T F N => nameX_K F (O.K T) (topRead_of (O.T T)) e (Po.in T F N h) hk.symm hx.symm hd
theorem W_bltn {x : Str} {pos : Pos} {v : Value} {Q : Value → Mp → HL → Prop} (h : Q v m H) (hx : some .globalImplicit = c.env.kindOf x := by with_unfolding_all exact rfl) (hk : .function = c.cs.kind := by with_unfolding_all exact rfl) (hd : (x == ("__debug__" : Str)) = false := by with_unfolding_all decide) (hn : x ≠ "__name__" := by with_unfolding_all decide) (O : Ok C c n := by assumption) (e : nsIn (Mine.kk C.w.params) mainGlobals x = some none := by with_unfolding_all k_is) (hv : bootBuiltins x = some v := by with_unfolding_all boot_by_name) :
    W C c m H (eval (.Name x pos) c.env) Q := fun _ _ _ T F N => nameX_B F (O.K T) (topRead_of (O.T T)) e hv hn (Po.in T F N h) hk.symm hx.symm hd
theorem W_store {x : Str} {v : Value} {Q : Unit → Mp → HL → Prop} (h : Q () (upd m x v) H) (hx : some .local = c.env.kindOf x := by with_unfolding_all exact rfl) (hk : .function = c.cs.kind := by with_unfolding_all exact rfl) : W C c m H (storeName c.env x v) Q :=
  fun _ _ tk T F N => wpAny_storeName_local hx.symm F.ns (fun _ hn hs => Po.in (tk := tk + 1) T (F.set hn hs) (N.set hs) h) (by show (c.cs.kind == .class || (c.cs.kind == .module && c.L != mainGlobals)) = false; rw [hk.symm]; rfl)
theorem W_storeC {x : Str} {v : Value} {a : Addr} {o : Obj} {v₀ : Option Value} {g : Obj → HL} {Q : Unit → Mp → HL → Prop} (hc : c.cl.lookup x = some a) (U : ∀ o', At a o o' H (g o')) (ho : o.data = .cell v₀)
    (h : ∀ o', o'.data = .cell (some v) → Q () m (g o')) (hk : c.cs.kind = .function := by rfl) (hx : c.env.kindOf x = some .cell := by rfl) : W C c m H (storeName c.env x v) Q := fun _ _ tk T F N => by
  refine wpAny_storeName_cell hk hx hc ⟨o, N.get (U o).mem, ho⟩ fun h' hv hs => ?_
  obtain ⟨o', ho', hd'⟩ := hv
  obtain ⟨F', N'⟩ := N.same F (U o') hs ho'
  exact Po.in T F' N' (h o' hd')

-- constants
theorem W_int {i : Int} {k : Nat} {pos : Pos} {Q : Value → Mp → HL → Prop} (h : ∀ t, Q (.int i t) m H) : W C c m H (eval (.Constant (.int i) k pos) env) Q :=
  fun _ _ tk T F N => wpAny_Constant_int (Po.in (tk := tk + 1) T F N (h _))
theorem W_str {x : Str} {k : Nat} {pos : Pos} {Q : Value → Mp → HL → Prop} (h : ∀ t, Q (.str x t) m H) : W C c m H (eval (.Constant (.str x) k pos) env) Q :=
  fun _ _ tk T F N => wpAny_Constant_str (Po.in (tk := tk + 1) T F N (h _))
theorem W_none {k : Nat} {pos : Pos} {Q : Value → Mp → HL → Prop} (h : Q .none m H) : W C c m H (eval (.Constant .none k pos) env) Q :=
  fun _ _ _ T F N => wpAny_Constant_none (Po.in T F N h)
theorem W_true {b : Bool} {k : Nat} {pos : Pos} {Q : Value → Mp → HL → Prop} (h : Q (.bool b) m H) : W C c m H (eval (.Constant (.bool b) k pos) env) Q :=
  fun _ _ _ T F N => wpAny_Constant_bool (Po.in T F N h)

-- expressions
theorem W_BinOp {l r : Expr} {op : Operator} {pos : Pos} {Q : Value → Mp → HL → Prop} (h : let Qk : Value → Mp → HL → Prop := fun a m1 H1 => W C c m1 H1 (eval r env) fun b m2 H2 => W C c m2 H2 (binaryOp op a b) Q; W C c m H (eval l env) Qk) :
    W C c m H (eval (.BinOp l op r pos) env) Q := fun _ _ _ T F N => wpAny_BinOp (h.run T F N fun _ _ _ _ _ _ T1 F1 N1 q => q.run T1 F1 N1 fun _ _ _ _ _ _ T2 F2 N2 q => q _ _ _ T2 F2 N2)
theorem W_Compare {l r : Expr} {op : CmpOp} {pos : Pos} {Q : Value → Mp → HL → Prop} (h : let Qk : Value → Mp → HL → Prop := fun a m1 H1 => W C c m1 H1 (eval r env) fun b m2 H2 => W C c m2 H2 (compareOp op a b) Q; W C c m H (eval l env) Qk) (hm : behindInMarks op r = false := by with_unfolding_all exact rfl) : W C c m H (eval (.Compare l [op] [r] pos) env) Q := fun _ _ _ T F N => wpAny_Compare1 (h.run T F N fun _ _ _ _ _ _ T1 F1 N1 q => q.run T1 F1 N1 fun _ _ _ _ _ _ T2 F2 N2 q => q _ _ _ T2 F2 N2) hm
theorem W_isTrue_Compare {l r : Expr} {op : CmpOp} {pos : Pos} {whole : Sem Value} {Q : Bool → Mp → HL → Prop} (h : let Qk : Value → Mp → HL → Prop := fun a m1 H1 => W C c m1 H1 (eval r env) fun b m2 H2 => W C c m2 H2 (compareOp op a b) fun v m3 H3 => W C c m3 H3 (truthy v) Q; W C c m H (eval l env) Qk) (hm : behindInMarks op r = false := by with_unfolding_all exact rfl) : W C c m H (isTrue (.Compare l [op] [r] pos) env whole) Q :=
  fun _ _ _ T F N => wpAny_isTrue_Compare1 (h.run T F N fun _ _ _ _ _ _ T1 F1 N1 q => q.run T1 F1 N1 fun _ _ _ _ _ _ T2 F2 N2 q => q.run T2 F2 N2 fun _ _ _ _ _ _ T3 F3 N3 q => q _ _ _ T3 F3 N3) hm
theorem W_Unary {op : UnaryOp} {x : Expr} {pos : Pos} {Q : Value → Mp → HL → Prop} (h : W C c m H (eval x env) fun v m1 H1 => W C c m1 H1 (unaryOp op v) Q) : W C c m H (eval (.UnaryOp op x pos) env) Q :=
  fun _ _ _ T F N => UnaryOp_ (h.run T F N fun _ _ _ _ _ _ T1 F1 N1 q => q _ _ _ T1 F1 N1)
theorem W_not {v : Value} {Q : Value → Mp → HL → Prop} (h : W C c m H (truthy v) fun b m1 H1 => Q (.bool (!b)) m1 H1) : W C c m H (unaryOp .Not v) Q :=
  fun _ _ _ T F N => not_of (h.run T F N fun _ _ _ _ _ _ T1 F1 N1 q => Po.in T1 F1 N1 q)
theorem W_isTrue_not {x : Expr} {pos : Pos} {whole : Sem Value} {Q : Bool → Mp → HL → Prop} (h : let Qk : Bool → Mp → HL → Prop := fun b m1 H1 => Q (!b) m1 H1; W C c m H (isTrue x env (eval x env)) Qk) : W C c m H (isTrue (.UnaryOp .Not x pos) env whole) Q :=
  fun _ _ _ T F N => isTrue_not (h.run T F N fun _ _ _ _ _ _ T1 F1 N1 q => Po.in T1 F1 N1 q)
theorem W_isTrue {e : Expr} {whole : Sem Value} {Q : Bool → Mp → HL → Prop} (h : let Qk : Value → Mp → HL → Prop := fun v m1 H1 => W C c m1 H1 (truthy v) Q; W C c m H whole Qk) (he : isTrue e env whole = (do let v ← whole; standAt e.pos; holding [v] (truthy v)) := by with_unfolding_all exact rfl) : W C c m H (isTrue e env whole) Q :=
  fun _ _ _ T F N => isTrue_plain (h.run T F N fun _ _ _ _ _ _ T1 F1 N1 q => q _ _ _ T1 F1 N1) he
theorem W_isTrue_IfExp {t b o : Expr} {pos : Pos} {whole : Sem Value} {Q : Bool → Mp → HL → Prop}
    (h : let Qk : Bool → Mp → HL → Prop := fun x m1 H1 => (x = true → W C c m1 H1 (isTrue b env (eval b env)) Q) ∧ (x = false → W C c m1 H1 (isTrue o env (eval o env)) Q); W C c m H (isTrue t env (eval t env)) Qk) :
    W C c m H (isTrue (.IfExp t b o pos) env whole) Q := fun _ _ _ T F N => isTrue_IfExp (h.run T F N fun x _ _ _ _ _ T1 F1 N1 q => by
  cases x with
  | true => exact q.1 rfl _ _ _ T1 F1 N1
  | false => exact q.2 rfl _ _ _ T1 F1 N1)
theorem W_IfExp {t b o : Expr} {pos : Pos} {Q : Value → Mp → HL → Prop}
    (h : let Qk : Bool → Mp → HL → Prop := fun x m1 H1 => (x = true → W C c m1 H1 (eval b env) Q) ∧ (x = false → W C c m1 H1 (eval o env) Q); W C c m H (isTrue t env (eval t env)) Qk) :
    W C c m H (eval (.IfExp t b o pos) env) Q := fun _ _ _ T F N => IfExp_ (h.run T F N fun x _ _ _ _ _ T1 F1 N1 q => by
  cases x with
  | true => exact q.1 rfl _ _ _ T1 F1 N1
  | false => exact q.2 rfl _ _ _ T1 F1 N1)
theorem W_and_nil {pos : Pos} {whole : Sem Value} {Q : Bool → Mp → HL → Prop} (h : Q true m H) : W C c m H (isTrue (.BoolOp .And [] pos) env whole) Q := fun _ _ _ T F N => isTrue_and_nil (Po.in T F N h)
theorem W_or_nil {pos : Pos} {whole : Sem Value} {Q : Bool → Mp → HL → Prop} (h : Q false m H) : W C c m H (isTrue (.BoolOp .Or [] pos) env whole) Q := fun _ _ _ T F N => isTrue_or_nil (Po.in T F N h)
theorem W_and {x : Expr} {rest : List Expr} {pos : Pos} {whole : Sem Value} {Q : Bool → Mp → HL → Prop}
    (h : let Qk : Bool → Mp → HL → Prop := fun b m1 H1 => (b = true → W C c m1 H1 (isTrue (.BoolOp .And rest pos) env whole) Q) ∧ (b = false → Q false m1 H1); W C c m H (isTrue x env (eval x env)) Qk) :
    W C c m H (isTrue (.BoolOp .And (x :: rest) pos) env whole) Q := fun _ _ _ T F N => isTrue_and (h.run T F N fun b _ _ _ _ _ T1 F1 N1 q => by
  cases b with
  | true => exact q.1 rfl _ _ _ T1 F1 N1
  | false => exact Po.in T1 F1 N1 (q.2 rfl))
theorem W_or {x : Expr} {rest : List Expr} {pos : Pos} {whole : Sem Value} {Q : Bool → Mp → HL → Prop}
    (h : let Qk : Bool → Mp → HL → Prop := fun b m1 H1 => (b = true → Q true m1 H1) ∧ (b = false → W C c m1 H1 (isTrue (.BoolOp .Or rest pos) env whole) Q); W C c m H (isTrue x env (eval x env)) Qk) :
    W C c m H (isTrue (.BoolOp .Or (x :: rest) pos) env whole) Q := fun _ _ _ T F N => isTrue_or (h.run T F N fun b _ _ _ _ _ T1 F1 N1 q => by
  cases b with
  | true => exact Po.in T1 F1 N1 (q.1 rfl)
  | false => exact q.2 rfl _ _ _ T1 F1 N1)
theorem W_BoolAnd {e₁ e₂ : Expr} {rest : List Expr} {pos : Pos} {Q : Value → Mp → HL → Prop}
    (h : W C c m H (eval e₁ env) fun v m1 H1 => W C c m1 H1 (truthy v) fun b m2 H2 => (b = true → W C c m2 H2 (eval (.BoolOp .And (e₂ :: rest) pos) env) Q) ∧ (b = false → Q v m2 H2)) :
    W C c m H (eval (.BoolOp .And (e₁ :: e₂ :: rest) pos) env) Q := fun _ _ _ T F N => BoolOp_and (h.run T F N fun _ _ _ _ _ _ T1 F1 N1 q => q.run T1 F1 N1 fun b _ _ _ _ _ T2 F2 N2 q => by
  cases b with
  | true => exact q.1 rfl _ _ _ T2 F2 N2
  | false => exact Po.in T2 F2 N2 (q.2 rfl))
theorem W_Bool1 {op : BoolOp} {e : Expr} {pos : Pos} {Q : Value → Mp → HL → Prop} (h : W C c m H (eval e env) Q) : W C c m H (eval (.BoolOp op [e] pos) env) Q := fun _ _ _ T F N => BoolOp_one (h _ _ _ T F N)
theorem W_chain {l r₁ r₂ : Expr} {op₁ op₂ : CmpOp} {ops : List CmpOp} {rs : List Expr} {pos : Pos} {whole : Sem Value} {Q : Bool → Mp → HL → Prop} (h : let Qk : Value → Mp → HL → Prop := fun a m1 H1 => W C c m1 H1 (testChain pos a (op₁ :: op₂ :: ops) (eval r₁ env :: eval r₂ env :: evalEach rs env)) Q; W C c m H (eval l env) Qk) (hm : lastMarks (op₁ :: op₂ :: ops) (r₁ :: r₂ :: rs) = false := by with_unfolding_all exact rfl) : W C c m H (isTrue (.Compare l (op₁ :: op₂ :: ops) (r₁ :: r₂ :: rs) pos) env whole) Q :=
  fun _ _ _ T F N => isTrue_chain (h.run T F N fun _ _ _ _ _ _ T1 F1 N1 q => q _ _ _ T1 F1 N1) hm
theorem W_link {pos : Pos} {a : Value} {op op' : CmpOp} {ops : List CmpOp} {r r' : Sem Value} {rs : List (Sem Value)} {Q : Bool → Mp → HL → Prop}
    (h : let Qk : Value → Mp → HL → Prop := fun b m1 H1 => W C c m1 H1 (compareOp op a b) fun v m2 H2 => W C c m2 H2 (truthy v) fun t m3 H3 => (t = true → W C c m3 H3 (testChain pos b (op' :: ops) (r' :: rs)) Q) ∧ (t = false → Q false m3 H3); W C c m H r Qk) :
    W C c m H (testChain pos a (op :: op' :: ops) (r :: r' :: rs)) Q := fun _ _ _ T F N => test_link (h.run T F N fun _ _ _ _ _ _ T1 F1 N1 q => q.run T1 F1 N1 fun _ _ _ _ _ _ T2 F2 N2 q => q.run T2 F2 N2 fun t _ _ _ _ _ T3 F3 N3 q => by
  cases t with
  | true => exact q.1 rfl _ _ _ T3 F3 N3
  | false => exact Po.in T3 F3 N3 (q.2 rfl))
theorem W_last {pos : Pos} {a : Value} {op : CmpOp} {r : Sem Value} {Q : Bool → Mp → HL → Prop}
    (h : let Qk : Value → Mp → HL → Prop := fun b m1 H1 => W C c m1 H1 (compareOp op a b) fun v m2 H2 => W C c m2 H2 (truthy v) Q; W C c m H r Qk) : W C c m H (testChain pos a [op] [r]) Q :=
  fun _ _ _ T F N => test_last (h.run T F N fun _ _ _ _ _ _ T1 F1 N1 q => q.run T1 F1 N1 fun _ _ _ _ _ _ T2 F2 N2 q => q _ _ _ T2 F2 N2)
theorem W_truthy_bool {b : Bool} {Q : Bool → Mp → HL → Prop} (h : Q b m H) : W C c m H (truthy (.bool b)) Q := fun _ _ _ T F N => wpAny_truthy_bool (Po.in T F N h)

-- items, displays
theorem W_items_nil {pos : Pos} {Q : List Value → Mp → HL → Prop} (h : Q [] m H) : W C c m H (spliced (backTo pos (starEach [] env))) Q := fun _ _ _ T F N => wpAny_items_nil (Po.in T F N h)
theorem W_items_cons {pos : Pos} {e : Expr} {rest : List Expr} {Q : List Value → Mp → HL → Prop} (h : let Qk : Value → Mp → HL → Prop := fun v m1 H1 => W C c m1 H1 (spliced (backTo pos (starEach rest env))) fun vs m2 H2 => Q (v :: vs) m2 H2; W C c m H (eval e env) Qk) (he : starEach (e :: rest) env = (false, eval e env) :: starEach rest env := by with_unfolding_all exact rfl) : W C c m H (spliced (backTo pos (starEach (e :: rest) env))) Q :=
  fun _ _ _ T F N => wpAny_items_cons (h.run T F N fun _ _ _ _ _ _ T1 F1 N1 q => q.run T1 F1 N1 fun _ _ _ _ _ _ T2 F2 N2 q => Po.in T2 F2 N2 q) he
theorem W_newTuple {vs : List Value} {Q : Value → Mp → HL → Prop} (h : ∀ a, Q (.ref a) m ((a, tupOf vs) :: H)) (hz : vs.length ≤ sizeLine := by with_unfolding_all exact Nat.le_of_ble_eq_true rfl) : W C c m H (newTuple vs) Q :=
  fun _ _ _ T F N => wpAny_newObj_type (Po.in T (F.push _) (N.push F _) (h _)) (by show vs.toArray.size ≤ sizeLine; rw [List.size_toArray]; exact hz)
theorem W_newList {vs : List Value} {Q : Value → Mp → HL → Prop} (h : ∀ a, Q (.ref a) m ((a, lstOf vs 0) :: H)) (hz : vs.length ≤ sizeLine := by with_unfolding_all exact Nat.le_of_ble_eq_true rfl) : W C c m H (newList vs) Q :=
  fun _ _ _ T F N => wpAny_newObj_type (Po.in T (F.push _) (N.push F _) (h _)) (by show vs.toArray.size ≤ sizeLine; rw [List.size_toArray]; exact hz)
theorem W_Tuple {elts : List Expr} {k : Nat} {pos : Pos} {Q : Value → Mp → HL → Prop} (h : let Qk : List Value → Mp → HL → Prop := fun vs m1 H1 => W C c m1 H1 (newTuple vs) Q; W C c m H (spliced (backTo pos (starEach elts env))) Qk) : W C c m H (eval (.Tuple elts k pos) env) Q :=
  fun _ _ _ T F N => Tuple_ (h.run T F N fun _ _ _ _ _ _ T1 F1 N1 q => q _ _ _ T1 F1 N1)
theorem W_List {elts : List Expr} {pos : Pos} {Q : Value → Mp → HL → Prop} (h : let Qk : List Value → Mp → HL → Prop := fun vs m1 H1 => W C c m1 H1 (newList vs) Q; W C c m H (spliced (backTo pos (starEach elts env))) Qk) : W C c m H (eval (.List elts pos) env) Q :=
  fun _ _ _ T F N => List_ (h.run T F N fun _ _ _ _ _ _ T1 F1 N1 q => q _ _ _ T1 F1 N1)

-- reading of items and attributes
theorem W_Subscript {value slice : Expr} {pos : Pos} {Q : Value → Mp → HL → Prop} (h : let Qk : Value → Mp → HL → Prop := fun o m1 H1 => W C c m1 H1 (eval slice env) fun i m2 H2 => W C c m2 H2 (subscriptTail value slice o i) Q; W C c m H (eval value env) Qk) :
    W C c m H (eval (.Subscript value slice pos) env) Q := fun _ _ _ T F N => Subscript_ (h.run T F N fun _ _ _ _ _ _ T1 F1 N1 q => q.run T1 F1 N1 fun _ _ _ _ _ _ T2 F2 N2 q => q _ _ _ T2 F2 N2)
theorem W_tupItem {value slice : Expr} {a : Addr} {vs : List Value} {k : Int} {u : Tok} {j : Nat} {v : Value} {Q : Value → Mp → HL → Prop} (h : Q v m H) (hm : (a, tupOf vs) ∈ H := by k_extra "mm") (hj : seqIndex? k vs.length = some j := by with_unfolding_all exact rfl) (hx : vs[j]? = some v := by with_unfolding_all exact rfl) (hlo : -(2 ^ 63) ≤ k := by with_unfolding_all decide) (hhi : k < 2 ^ 63 := by with_unfolding_all decide) (hs : subscripted slice false (.ref a) (.int k u) = operate [.ref a, .int k u] (getItem (.ref a) (.int k u)) := by with_unfolding_all exact rfl) :
    W C c m H (subscriptTail value slice (.ref a) (.int k u)) Q := fun _ _ _ T F N => kba_turn (value' := .Name "_" ⟨0, 0, 0, 0⟩) (fun _ => rfl) (item_tupleL ⟨_, N.get hm, rfl, 0, rfl⟩ hlo hhi hj hx (Po.in T F N h) hs (fun _ => rfl))
theorem W_lstItem {value slice : Expr} {a : Addr} {vs : List Value} {e : Nat} {k : Int} {u : Tok} {v : Value} {Q : Value → Mp → HL → Prop} (hm : (a, lstOf vs e) ∈ H) (h0 : 0 ≤ k) (hx : vs[k.toNat]? = some v) (h : Q v m H)
    (hhi : k < 2 ^ 63 := by decide)
    (hs : subscripted slice false (.ref a) (.int k u) = operate [.ref a, .int k u] (getItem (.ref a) (.int k u)) := by with_unfolding_all rfl) :
    W C c m H (subscriptTail value slice (.ref a) (.int k u)) Q := fun _ _ _ T F N =>
  have hL : Heap.IsList _ a vs.toArray := ⟨_, N.get hm, rfl, e, rfl⟩
  tail_any hL.typeIs slot_list_getitem.lookup (wpAny_getItem_list hL h0 hhi (by simpa using hx) (Po.in T F N h)) hs
theorem W_Attribute {value : Expr} {attr : Str} {pos : Pos} {Q : Value → Mp → HL → Prop} (h : let Qk : Value → Mp → HL → Prop := fun o m1 H1 => W C c m1 H1 (getAttr o attr true) Q; W C c m H (eval value env) Qk) (he : eval (.Attribute value attr pos) env = (do
      let o ← eval value env
      standAt pos.atName
      let r ← holding [o] (getAttr o attr true)
      letTemporaryGo value o r
      pure r) := by with_unfolding_all exact rfl) : W C c m H (eval (.Attribute value attr pos) env) Q :=
  fun _ _ _ T F N => Attribute_any_ (h.run T F N fun _ _ _ _ _ _ T1 F1 N1 q => q _ _ _ T1 F1 N1) he

-- statements
theorem W_nil {Qn : Mp → HL → Prop} {Qr : Value → Mp → HL → Prop} (h : Qn m H) : W C c m H (execs [] env) (SP Qn Qr) := fun _ _ _ T F N => wpAny_execs_nil (Po.in T F N h)
theorem W_cons {st : Stmt} {rest : List Stmt} {Qn : Mp → HL → Prop} {Qr : Value → Mp → HL → Prop} (h : W C c m H (exec st env) (SP (fun m1 H1 => W C c m1 H1 (execs rest env) (SP Qn Qr)) Qr)) :
    W C c m H (execs (st :: rest) env) (SP Qn Qr) := fun _ _ _ T F N => wpAny_execs_cons (h.run T F N fun f _ _ _ _ _ T1 F1 N1 q => by
  cases f with
  | next => exact q _ _ _ T1 F1 N1
  | ret v => exact Po.in T1 F1 N1 q
  | brk => exact q.elim
  | cont => exact q.elim)
theorem W_Return {e : Expr} {pos : Pos} {Qn : Mp → HL → Prop} {Qr : Value → Mp → HL → Prop} (h : W C c m H (eval e env) Qr) : W C c m H (exec (.Return (some e) pos) env) (SP Qn Qr) :=
  fun _ _ _ T F N => wpAny_Return_some (h.run T F N fun _ _ _ _ _ _ T1 F1 N1 q => Po.in T1 F1 N1 q)
theorem W_Return0 {pos : Pos} {Qn : Mp → HL → Prop} {Qr : Value → Mp → HL → Prop} (h : Qr .none m H) : W C c m H (exec (.Return none pos) env) (SP Qn Qr) :=
  fun _ _ _ T F N => wpAny_Return_none (Po.in T F N h)
theorem W_If {t : Expr} {b o : List Stmt} {pos : Pos} {Qn : Mp → HL → Prop} {Qr : Value → Mp → HL → Prop}
    (h : let Qk : Bool → Mp → HL → Prop := fun x m1 H1 => (x = true → W C c m1 H1 (execs b env) (SP Qn Qr)) ∧ (x = false → W C c m1 H1 (execs o env) (SP Qn Qr)); W C c m H (isTrue t env (eval t env)) Qk) :
    W C c m H (exec (.If t b o pos) env) (SP Qn Qr) := fun _ _ _ T F N => wpAny_If (h.run T F N fun x _ _ _ _ _ T1 F1 N1 q => by
  cases x with
  | true => exact q.1 rfl _ _ _ T1 F1 N1
  | false => exact q.2 rfl _ _ _ T1 F1 N1)
theorem W_Assign {x : Str} {p' pos : Pos} {value : Expr} {Qn : Mp → HL → Prop} {Qr : Value → Mp → HL → Prop} (h : let Qk : Value → Mp → HL → Prop := fun v m1 H1 => W C c m1 H1 (storeName env x v) fun _ m2 H2 => Qn m2 H2; W C c m H (eval value env) Qk) (hs : swapsWith value (some (.Name x p')) pos.line env = pure false := by with_unfolding_all exact rfl) : W C c m H (exec (.Assign [.Name x p'] value pos) env) (SP Qn Qr) :=
  fun _ _ _ T F N => wpAny_Assign_Name (h.run T F N fun _ _ _ _ _ _ T1 F1 N1 q => q.run T1 F1 N1 fun _ _ _ _ _ _ T2 F2 N2 q => Po.in (Q := SP Qn Qr) T2 F2 N2 q) hs
theorem W_Expr {e : Expr} {pos : Pos} {Qn : Mp → HL → Prop} {Qr : Value → Mp → HL → Prop} (h : let Qk : Value → Mp → HL → Prop := fun _ m1 H1 => Qn m1 H1; W C c m H (eval e env) Qk) (hi : interactive env = false := by with_unfolding_all exact rfl) (hs : swapsWith e none pos.line env = pure false := by with_unfolding_all exact rfl) : W C c m H (exec (.Expr e pos) env) (SP Qn Qr) :=
  fun _ _ _ T F N => wpAny_Expr_any (h.run T F N fun _ _ _ _ _ _ T1 F1 N1 q => Po.in (Q := SP Qn Qr) T1 F1 N1 q) hi hs
theorem W_AssignItem {o i value : Expr} {p' pos : Pos} {Qn : Mp → HL → Prop} {Qr : Value → Mp → HL → Prop} (h : let Qk : Value → Mp → HL → Prop := fun v m1 H1 => W C c m1 H1 (eval o env) fun ov m2 H2 => W C c m2 H2 (eval i env) fun iv m3 H3 => W C c m3 H3 (setItem ov iv v) fun _ m4 H4 => Qn m4 H4; W C c m H (eval value env) Qk) (hs : swapsWith value (some (.Subscript o i p')) pos.line env = pure false := by with_unfolding_all exact rfl) : W C c m H (exec (.Assign [.Subscript o i p'] value pos) env) (SP Qn Qr) :=
  fun _ _ _ T F N => wpAny_Assign_Subscript (h.run T F N fun _ _ _ _ _ _ T1 F1 N1 q => q.run T1 F1 N1 fun _ _ _ _ _ _ T2 F2 N2 q => q.run T2 F2 N2 fun _ _ _ _ _ _ T3 F3 N3 q => q.run T3 F3 N3 fun _ _ _ _ _ _ T4 F4 N4 q => Po.in (Q := SP Qn Qr) T4 F4 N4 q) hs
theorem W_AssignAttr {o value : Expr} {attr : Str} {p' pos : Pos} {Qn : Mp → HL → Prop} {Qr : Value → Mp → HL → Prop} (h : let Qk : Value → Mp → HL → Prop := fun v m1 H1 => W C c m1 H1 (eval o env) fun ov m2 H2 => W C c m2 H2 (setAttr ov attr v) fun _ m3 H3 => Qn m3 H3; W C c m H (eval value env) Qk) (hs : swapsWith value (some (.Attribute o attr p')) pos.line env = pure false := by with_unfolding_all exact rfl) : W C c m H (exec (.Assign [.Attribute o attr p'] value pos) env) (SP Qn Qr) :=
  fun _ _ _ T F N => plainObj_wpAny_Assign_Attribute (h.run T F N fun _ _ _ _ _ _ T1 F1 N1 q => q.run T1 F1 N1 fun _ _ _ _ _ _ T2 F2 N2 q => q.run T2 F2 N2 fun _ _ _ _ _ _ T3 F3 N3 q => Po.in (Q := SP Qn Qr) T3 F3 N3 q) hs

-- arithmetic
theorem W_add {a b : Int} {t u : Tok} {Q : Value → Mp → HL → Prop} (h : ∀ t, Q (.int (a + b) t) m H) : W C c m H (binaryOp .Add (.int a t) (.int b u)) Q := fun _ _ tk T F N => PyProof.Rows.add_int (Po.in (tk := tk + 1) T F N (h _))
theorem W_sub {a b : Int} {t u : Tok} {Q : Value → Mp → HL → Prop} (h : ∀ t, Q (.int (a - b) t) m H) : W C c m H (binaryOp .Sub (.int a t) (.int b u)) Q := fun _ _ tk T F N => PyProof.Rows.sub_int (Po.in (tk := tk + 1) T F N (h _))
theorem W_mul {a b : Int} {t u : Tok} {Q : Value → Mp → HL → Prop} (hm : IntMulOk a b) (h : ∀ t, Q (.int (a * b) t) m H) : W C c m H (binaryOp .Mult (.int a t) (.int b u)) Q := fun _ _ tk T F N => PyProof.Rows.mul_int (Po.in (tk := tk + 1) T F N (h _)) hm
theorem W_mod {a b : Int} {t u : Tok} {Q : Value → Mp → HL → Prop} (hb : b ≠ 0) (h : ∀ t, Q (.int (a.fmod b) t) m H) : W C c m H (binaryOp .Mod (.int a t) (.int b u)) Q := fun _ _ tk T F N => PyProof.Rows.mod_int hb (Po.in (tk := tk + 1) T F N (h _))
theorem W_div {a b : Int} {t u : Tok} {Q : Value → Mp → HL → Prop} (hb : b ≠ 0) (hp : Builtin.divisionGoesByPylong a b = false) (h : ∀ t, Q (.int (a.fdiv b) t) m H) : W C c m H (binaryOp .FloorDiv (.int a t) (.int b u)) Q :=
  fun _ _ tk T F N => PyProof.Rows.floordiv_int hb (Po.in (tk := tk + 1) T F N (h _)) (.inl hp)
theorem W_lt {a b : Int} {t u : Tok} {Q : Value → Mp → HL → Prop} (h : Q (.bool (decide (a < b))) m H) : W C c m H (compareOp .Lt (.int a t) (.int b u)) Q := fun _ _ _ T F N => PyProof.Rows.lt_int (Po.in T F N h)
theorem W_gt {a b : Int} {t u : Tok} {Q : Value → Mp → HL → Prop} (h : Q (.bool (decide (b < a))) m H) : W C c m H (compareOp .Gt (.int a t) (.int b u)) Q := fun _ _ _ T F N => PyProof.Rows.gt_int (Po.in T F N h)
theorem W_le {a b : Int} {t u : Tok} {Q : Value → Mp → HL → Prop} (h : Q (.bool (decide (a ≤ b))) m H) : W C c m H (compareOp .LtE (.int a t) (.int b u)) Q := fun _ _ _ T F N => PyProof.Rows.le_int (Po.in T F N h)
theorem W_ge {a b : Int} {t u : Tok} {Q : Value → Mp → HL → Prop} (h : Q (.bool (decide (b ≤ a))) m H) : W C c m H (compareOp .GtE (.int a t) (.int b u)) Q := fun _ _ _ T F N => PyProof.Rows.ge_int (Po.in T F N h)
theorem W_eq {a b : Int} {t u : Tok} {Q : Value → Mp → HL → Prop} (h : Q (.bool (a == b)) m H) : W C c m H (compareOp .Eq (.int a t) (.int b u)) Q := fun _ _ _ T F N => PyProof.Rows.eq_int (Po.in T F N h)
theorem W_is_ref_none {a : Addr} {Q : Value → Mp → HL → Prop} (h : Q (.bool false) m H) : W C c m H (compareOp .Is (.ref a) .none) Q := fun _ _ _ T F N => is_ref_none (Po.in T F N h)
theorem W_isnot_ref_none {a : Addr} {Q : Value → Mp → HL → Prop} (h : Q (.bool true) m H) : W C c m H (compareOp .IsNot (.ref a) .none) Q := fun _ _ _ T F N => isnot_ref_none (Po.in T F N h)
theorem W_is_int_none {a : Int} {t : Tok} {Q : Value → Mp → HL → Prop} (h : Q (.bool false) m H) : W C c m H (compareOp .Is (.int a t) .none) Q := fun _ _ _ T F N => is_int_none (Po.in T F N h)

-- calls
theorem W_CallName {f : Str} {p pos : Pos} {args : List Expr} {Q : Value → Mp → HL → Prop} (h : let Qk : Value → Mp → HL → Prop := fun fv m1 H1 => W C c m1 H1 (callWith pos fv [] (backTo pos (starEach args env)) []) Q; W C c m H (eval (.Name f p) env) Qk) :
    W C c m H (eval (.Call (.Name f p) args [] pos) env) Q := fun _ _ _ T F N => wpAny_Call_Name_kw (h.run T F N fun _ _ _ _ _ _ T1 F1 N1 q => q _ _ _ T1 F1 N1)
theorem W_Method {o : Expr} {name : Str} {ap pos : Pos} {args : List Expr} {pl : Sem Bool} {Q : Value → Mp → HL → Prop} (h : let Qk : Value → Mp → HL → Prop := fun ov m1 H1 => W C c m1 H1 (getMethod ov name pl) fun fx m2 H2 => W C c m2 H2 (callWith pos fx.1 fx.2 (backTo pos (starEach args env)) []) Q; W C c m H (eval o env) Qk) (he : eval (.Call (.Attribute o name ap) args [] pos) env = (do
      let ov ← eval o env
      standAt ap.atName
      let (f, first) ← holding [ov] (getMethod ov name pl)
      callWith pos f first (backTo pos (starEach args env)) []) := by with_unfolding_all exact rfl) : W C c m H (eval (.Call (.Attribute o name ap) args [] pos) env) Q :=
  fun _ _ _ T F N => MethodCall_ (h.run T F N fun _ _ _ _ _ _ T1 F1 N1 q => q.run T1 F1 N1 fun _ _ _ _ _ _ T2 F2 N2 q => q _ _ _ T2 F2 N2) he
theorem W_callK {f : Value} {first : List Value} {pos : Pos} {e : Expr} {rest : List Expr} {Q : Value → Mp → HL → Prop} (h : let Qk : List Value → Mp → HL → Prop := fun vs m1 H1 => W C c m1 H1 (call f (first ++ vs)) Q; W C c m H (spliced (backTo pos (starEach (e :: rest) env))) Qk) (he : starEach (e :: rest) env = (false, eval e env) :: starEach rest env := by with_unfolding_all exact rfl) (hp : (backTo pos (starEach rest env)).any (·.1) = false := by with_unfolding_all exact rfl) (O : Ok C c n := by assumption) (hk : keepIn (Mine.kk C.w.params) f = true := by with_unfolding_all k_is) :
    W C c m H (callWith pos f first (backTo pos (starEach (e :: rest) env)) []) Q := fun _ _ _ T F N =>
  callWith_K (h₀ := c.base) O.XB hk (h.run T F N fun _ _ _ _ _ _ T1 F1 N1 q => ⟨(O.K T1).keeps F1.keep, q _ _ _ T1 F1 N1⟩) he hp
theorem W_callK0 {f : Value} {first : List Value} {pos : Pos} {Q : Value → Mp → HL → Prop} (h : let Qk : Value → Mp → HL → Prop := Q; W C c m H (call f (first ++ [])) Qk) (O : Ok C c n := by assumption) (hk : keepIn (Mine.kk C.w.params) f = true := by with_unfolding_all k_is) : W C c m H (callWith pos f first (backTo pos (starEach [] env)) []) Q := fun _ _ _ T F N =>
  callWith_K0 ((O.K T).keeps F.keep) hk (h _ _ _ T F N)
theorem W_callB {id : String} {first : List Value} {pos : Pos} {e : Expr} {rest : List Expr} {Q : Value → Mp → HL → Prop} (h : let Qk : List Value → Mp → HL → Prop := fun vs m1 H1 => W C c m1 H1 (call (.builtin id) (first ++ vs)) Q; W C c m H (spliced (backTo pos (starEach (e :: rest) env))) Qk) (he : starEach (e :: rest) env = (false, eval e env) :: starEach rest env := by with_unfolding_all exact rfl) (hp : (backTo pos (starEach rest env)).any (·.1) = false := by with_unfolding_all exact rfl) :
    W C c m H (callWith pos (.builtin id) first (backTo pos (starEach (e :: rest) env)) []) Q := fun _ _ _ T F N =>
  callWith_method1 (h.run T F N fun _ _ _ _ _ _ T1 F1 N1 q => q _ _ _ T1 F1 N1) he hp

noncomputable def mOf (binds : List (Str × Value)) : Mp := binds.foldl (fun m b => upd m b.1 b.2) emp
theorem mOf_eq (binds : List (Str × Value)) : (fun y => binds.reverse.lookup y) = mOf binds := by
  have go : ∀ (l : List (Str × Value)) (d : List (Str × Value)), (fun y => (d ++ l).reverse.lookup y) = l.foldl (fun m b => upd m b.1 b.2) (fun y => d.reverse.lookup y) := by
    intro l
    induction l with
    | nil => intro d; simp
    | cons b l ih =>
      intro d
      rw [show d ++ b :: l = (d ++ [b]) ++ l by simp, ih (d ++ [b]), List.foldl_cons]
      congr 1
      exact lookup_reverse_snoc d b.1 b.2
  exact go binds []

noncomputable abbrev ghostFor (h : Heap) (H : HL) : Heap := hideAll h (H.map (·.1))
theorem enterG {g h : Heap} (O : Ok C c n) (T : KtsTurn c.fs c.h₀ g) (F : Fr g c.L h m) (N : Led g c h H) {A' : Around} (hA : A'.frames = some (c.env :: c.outer)) :
    Below A' c.base (c.env :: c.outer) (ghostFor h H) ∧ g.StaysIn (ghostFor h H) ∧ KtsDicts ((c.env :: c.outer).filterMap (·.frame)) (ghostFor h H) ∧ Fr g c.L (ghostFor h H) m := by
  obtain ⟨FG, BG, st, -⟩ := groundX (R := fun _ _ => True) (s := C.sh h 0) (O.B T) F N.N hA rfl O.hk
  refine ⟨BG, st, fun b hb => ?_, FG⟩
  have hb' : b = c.L ∨ b ∈ c.fs := by simpa [Fc.fs] using hb
  rcases hb' with rfl | hb'
  · obtain ⟨oL, es, ep, hL, hLd, _⟩ := FG.ns
    exact ⟨oL, es, ep, hL, hLd⟩
  · obtain ⟨o, es', n', ho', hd'⟩ := O.D T b hb'
    exact ⟨o, es', n', st b o ho', hd'⟩
theorem leaveG {g h : Heap} (O : Ok C c n) (T : KtsTurn c.fs c.h₀ g) (F : Fr g c.L h m) (N : Led g c h H) {G' h' : Heap} {L' : Addr} {m' : Mp} {H' : HL}
    (T' : KtsTurn ((c.env :: c.outer).filterMap (·.frame)) (ghostFor h H) G') (F' : Fr G' L' h' m') (N' : News G' L' h' H') (nd : (H'.map (·.1)).Nodup) :
    ∃ g', KtsTurn c.fs c.h₀ g' ∧ Fr g' c.L h' m ∧ Led g' c h' H' := by
  obtain ⟨BG, st, DG, FG⟩ := enterG O T F N (A' := c.A) rfl
  have B := O.B T
  have nL₀ : g.get? c.L = none := kts_self F
  have mem : ∀ b, b ∈ (c.env :: c.outer).filterMap (·.frame) → b = c.L ∨ b ∈ c.fs := fun b hb => by simpa [Fc.fs] using hb
  obtain ⟨oL, es, ep, hLg, hLd, hLk, hLf⟩ := FG.ns
  obtain ⟨sl, hs⟩ := T'.up hLg
  obtain ⟨T₁, S₁⟩ := kts_turn_at (h := h') (fs := c.fs) (g := g)
    (fun b hb => by
      obtain ⟨_, o, ho', _⟩ := B.frames.mem hb
      exact ⟨o, ho'⟩)
    (fun b o e nmem => F'.keep b o (T'.other b o (st b o e) (fun q => by
      rcases mem b q with z | z
      · rw [z, nL₀] at e
        cases e
      · exact nmem z)))
    (fun b o e hm => by
      obtain ⟨sl', hs'⟩ := T'.up (st b o e)
      exact ⟨sl', F'.keep _ _ hs'⟩)
  refine ⟨_, T.trans T₁, ⟨⟨_, es, ep, F'.keep _ _ hs, hLd, hLk, hLf⟩, S₁, by rw [T₁.size]; exact F.above⟩, ⟨fun p hp => ⟨(N' p hp).1, fun q => ?_, ?_⟩, nd⟩⟩
  · have := (N' p hp).2.2; rw [q, hs] at this; cases this
  · refine T₁.none_ _ ?_
    cases q : g.get? p.1 with
    | none => rfl
    | some o =>
      obtain ⟨sl', hs'⟩ := T'.up (st _ _ q)
      have := (N' p hp).2.2
      rw [hs'] at this
      cases this

theorem W_def {f : Addr} {name qual : Str} {params : Arguments} {body : List Stmt} {scope : Scope} {dV kV doc pm cdv ct oc : Value} {an od : Option Addr} {osl : Array (Option Value)} {args : List Value} {binds : List (Str × Value)} {Q : Value → Mp → HL → Prop}
    (O : Ok C c (n + 1)) (ho : List.lookup f (Mine.kk C.w.params) = some ⟨oc, od, .func (fnOf name qual params body scope dV kV doc pm an cdv ct), osl⟩) (hcd : codeIn (Mine.kk C.w.params) cdv qual = true)
    (hb : bindArgs (fnOf name qual params body scope dV kV doc pm an cdv ct) ⟨args, []⟩ = pure binds) (hloc : (binds.all fun x => decide (scope.names.lookup x.1 = some .local)) = true)
    (h : ∀ dp un outer A₀ base h₀ L, Ok C ⟨dp, un, qual, scope, f, cdv, [], outer, A₀, base, h₀, L⟩ n →
      W C ⟨dp, un, qual, scope, f, cdv, [], outer, A₀, base, h₀, L⟩ (mOf binds) H (execs body (Fc.env ⟨dp, un, qual, scope, f, cdv, [], outer, A₀, base, h₀, L⟩)) (SP (fun _ H' => Dr (Q .none m) H') (fun v _ H' => Dr (Q v m) H')))
    (hco : scope.isCoroutine = false) (hgen : scope.isGenerator = false) (hk : scope.kind = .function) (hcell : ∀ x ∈ scope.names, x.2 ≠ .cell) :
    W C c m H (call (.ref f) args) Q := fun g hh tk T F N => by
  obtain ⟨BG, st, DG, FG⟩ := enterG O T F N (A' := c.A) rfl
  have X := (O.K T).keeps F.keep
  refine wpAny_call (codeAny_call_def (fd := fnOf name qual params body scope dV kV doc pm an cdv ct) (body := body) (binds := binds) (by have := O.hd; exact Nat.lt_of_le_of_lt (Nat.le_add_right _ _) this) (X _ _ ho) rfl ((O.T T).nolimit.keeps F.keep) (codeRec_of X hcd) rfl (BindsTo.of_eq hb) hcell (locs hloc) (fun h₁ hns hk₁ => ?_) hco hgen hk)
  rw [mOf_eq] at hns
  have O' : Ok C ⟨c.dp + 1, c.un + 3, qual, scope, f, cdv, [], c.env :: c.outer, c.A, c.base, ghostFor hh H, hh.objs.size⟩ n := ⟨BG, DG, O.XB, O.TB, hk, by have := O.hd; simp only; omega, by have := O.hu; simp only; omega⟩
  refine (h _ _ _ _ _ _ _ O').run (tk := tk + binds.length) KtsTurn.refl ⟨hns, fun b o e => hk₁ b o (of_hideAll _ e), Nat.le_of_eq (hideAll_size _ _)⟩
    ⟨fun p hp => ⟨hk₁ _ _ (N.N p hp).1, Nat.ne_of_lt (Heap.lt_size (N.N p hp).1), hideAll_none _ (List.mem_map_of_mem hp)⟩, N.nd⟩ fun fl g' h' tk' m' H' T1 F1 N1 q => ?_
  obtain ⟨g2, T2, F2, N2⟩ := leaveG O T F N T1 F1 N1.N N1.nd
  cases fl with
  | next => obtain ⟨H2, l2, q⟩ := q; exact Po.in T2 F2 (N2.le l2) q
  | ret v => obtain ⟨H2, l2, q⟩ := q; exact Po.in T2 F2 (N2.le l2) q
  | brk => exact q.elim
  | cont => exact q.elim
end
end
section
open PySem PySem.W PySem.Calls PySem.Spec PyProof.Rows
section
variable {C : Cst} {c : Fc} {α β : Type} {m : Mp} {H : HL} {env : Env} {n : Nat}

theorem W_callT {T : String} {pos : Pos} {e : Expr} {rest : List Expr} {Q : Value → Mp → HL → Prop} (h : let Qk : List Value → Mp → HL → Prop := fun vs m1 H1 => W C c m1 H1 (call (.type T) vs) Q; W C c m H (spliced (backTo pos (starEach (e :: rest) env))) Qk) (he : starEach (e :: rest) env = (false, eval e env) :: starEach rest env := by with_unfolding_all exact rfl) (hp : (backTo pos (starEach rest env)).any (·.1) = false := by with_unfolding_all exact rfl) :
    W C c m H (callWith pos (.type T) [] (backTo pos (starEach (e :: rest) env)) []) Q := fun _ _ _ T F N =>
  Pv.callWith_type1 (h.run T F N fun _ _ _ _ _ _ T1 F1 N1 q => q _ _ _ T1 F1 N1) he hp
theorem W_int_int {i : Int} {t : Tok} {Q : Value → Mp → HL → Prop} (h : Q (.int i t) m H) : W C c m H (call (.type "int") [.int i t]) Q := fun _ _ _ T F N => call_int_int (Po.in T F N h)
theorem W_int_bool {b : Bool} {Q : Value → Mp → HL → Prop} (h : ∀ t, Q (.int (if b then 1 else 0) t) m H) : W C c m H (call (.type "int") [.bool b]) Q := fun _ _ tk T F N => call_int_bool (Po.in (tk := tk + 1) T F N (h _))
theorem W_setItem {a : Addr} {vs : List Value} {e : Nat} {k : Int} {t : Tok} {v : Value} {H' : HL} {Q : Unit → Mp → HL → Prop} (h0 : 0 ≤ k) (hn : k < vs.length) (U : At a (lstOf vs e) (lstOf (vs.set k.toNat v) e) H H') (h : Q () m H') (hhi : k < 2 ^ 63 := by decide) :
    W C c m H (setItem (.ref a) (.int k t) v) Q := fun _ _ _ T F N => by
  refine ki_setAt (N.get U.mem) h0 hhi (by simpa using hn) ?_
  obtain ⟨F', N'⟩ := N.upd (f := Obj.mapSeq (·.setIfInBounds k.toNat v)) F U (by simp [Obj.mapSeq]) rfl
  exact Po.in T F' N' h
theorem W_append {a : Addr} {vs : List Value} {e : Nat} {v : Value} {H' : HL} {Q : Value → Mp → HL → Prop} (U : At a (lstOf vs e) (lstOf (vs ++ [v]) (e + 1)) H H') (h : Q .none m H') (hz : vs.length ≤ sizeLine) :
    W C c m H (call (.builtin "list.append") [.ref a, v]) Q := fun _ _ _ T F N => by
  refine append_at (N.get U.mem) (fun h' hs ho => ?_) (by simpa using hz)
  obtain ⟨F', N'⟩ := N.same F U hs (by rw [ho]; simp)
  exact Po.in T F' N' h
theorem W_getAppend {a : Addr} {vs : List Value} {e : Nat} {pl : Sem Bool} {Q : Value × List Value → Mp → HL → Prop} (h : Q (.builtin "list.append", [.ref a]) m H) (hm : (a, lstOf vs e) ∈ H := by k_extra "mm") : W C c m H (getMethod (.ref a) "append" pl) Q :=
  fun _ _ _ T F N => listMethod_K N.N hm PySem.F.slot_list_append PySem.F.type_list_append (Po.in T F N h)
theorem W_len {a : Addr} {vs : List Value} {e : Nat} {Q : Value → Mp → HL → Prop} (hm : (a, lstOf vs e) ∈ H) (h : ∀ t, Q (.int vs.length t) m H) (hz : (vs.length : Int) < 2 ^ 63) : W C c m H (call (.builtin "len") [.ref a]) Q :=
  fun _ _ tk T F N => call_len_list (items := vs.toArray) ⟨_, N.get hm, rfl, e, rfl⟩ (by simpa using hz) (Po.in (tk := tk + 2) T F N (by simpa using h _))
end
end
section
open PySem PySem.W PySem.Calls PySem.Spec PyProof.Rows
section
variable {C : Cst} {c : Fc} {α β : Type} {m : Mp} {H : HL} {env : Env} {n : Nat}

theorem Led.ext {g h h' : Heap} {a : Addr} {o : Obj} (F : Fr g c.L h m) (N : Led g c h ((a, o) :: H)) (hs : Heap.ExtBut a h h') : Fr g c.L h' m ∧ Led g c h' H := by
  have D := N.N (a, o) (.head _)
  have nd := List.nodup_cons.mp N.nd
  refine ⟨⟨F.ns.extBut hs (Ne.symm D.2.1), fun b o' e => hs b o' (fun q => ?_) (F.keep b o' e), F.above⟩, ⟨fun p hp => ?_, nd.2⟩⟩
  · rw [q, D.2.2] at e; cases e
  · have P := N.N p (.tail _ hp)
    exact ⟨hs _ _ (fun q => nd.1 (List.mem_map.mpr ⟨p, hp, q⟩)) P.1, P.2⟩

structure It (C : Cst) (c : Fc) (it : Addr) (k : Nat) (own : Nat → HL → Prop) (out : Nat → Value → HL → Prop) (need : HL → Prop) : Prop where
  item : ∀ {i m H X} {Q : Option Value → Mp → HL → Prop}, i < k → own i X → need H → (∀ v X', out i v X' → Q (some v) m (X' ++ H)) → W C c m (X ++ H) (pyNext (.ref it)) Q
  done : ∀ {m H X} {Q : Option Value → Mp → HL → Prop}, own k X → need H → Q none m H → W C c m (X ++ H) (pyNext (.ref it)) Q

inductive OwnL (it l : Addr) (i : Nat) (X : HL) : Prop
  | mk (o : Obj) (q0 : X = [(it, o)]) (q1 : o.cls = .type "list_iterator") (q2 : o.data = .fields #[.ref l, .int i 0]) : OwnL it l i X
theorem It_list {it l : Addr} {vs : List Value} {e : Nat} : It C c it vs.length (OwnL it l) (fun i v X => vs[i]? = some v ∧ OwnL it l (i + 1) X) (fun H => (l, lstOf vs e) ∈ H) where
  item := by
    rintro i m H X Q hi ⟨o, rfl, hc, hd⟩ hm hQ g h tk T F N
    refine wpAny_pyNext_list_item (i := i) (items := vs.toArray) (x := vs[i]) ⟨o, N.get (.head _), hc, hd⟩ ⟨_, N.get (.tail _ hm), rfl, e, rfl⟩ (by simp [hi]) fun h' hit hs => ?_
    obtain ⟨o', ho', hc', hd'⟩ := hit
    obtain ⟨F', N'⟩ := N.same F (At.head (o' := o')) hs ho'
    exact Po.in T F' N' (hQ _ [(it, o')] ⟨by simp [hi], o', rfl, hc', hd'⟩)
  done := by
    rintro m H X Q ⟨o, rfl, hc, hd⟩ hm hQ g h tk T F N
    refine wpAny_pyNext_list_end (i := vs.length) (items := vs.toArray) rfl ⟨o, N.get (.head _), hc, hd⟩ ⟨_, N.get (.tail _ hm), rfl, e, rfl⟩ (by simp) fun h' hs => ?_
    obtain ⟨F', N'⟩ := Led.ext F N hs
    exact Po.in T F' N' hQ

noncomputable def rngIt (i k : Nat) : Obj := { cls := .type "range_iterator", dict := none, data := .fields #[rawInt i, rawInt ((k : Int) - i), rawInt 1], slots := #[] }
noncomputable def OwnR (it : Addr) (k i : Nat) (X : HL) : Prop := X = [(it, rngIt i k)]
theorem It_range {it : Addr} {k : Nat} : It C c it k (OwnR it k) (fun i v X => (∃ t, v = .int (i : Int) t) ∧ OwnR it k (i + 1) X) (fun _ => True) where
  item := by
    rintro i m H X Q hi rfl _ hQ g h tk T F N
    refine wpAny_pyNext_range_item (x := (i : Int)) (left := (k : Int) - i) (step := 1) (N.get (.head _)) (by omega) fun h' hit hs => ?_
    have e : rngIt (i + 1) k = { cls := .type "range_iterator", dict := none, data := .fields #[rawInt ((i : Int) + 1), rawInt ((k : Int) - i - 1), rawInt 1], slots := #[] } := by
      unfold rngIt
      rw [show ((k : Int) - ((i + 1 : Nat) : Int)) = (k : Int) - i - 1 by omega, show ((i + 1 : Nat) : Int) = (i : Int) + 1 by omega]
    obtain ⟨F', N'⟩ := N.same F (At.head (o' := rngIt (i + 1) k)) hs (by rw [e]; exact hit)
    exact Po.in (tk := tk + 1) T F' N' (hQ _ [(it, rngIt (i + 1) k)] ⟨⟨_, rfl⟩, rfl⟩)
  done := by
    rintro m H X Q rfl _ hQ g h tk T F N
    refine wpAny_pyNext_range_end (x := (k : Int)) (left := (k : Int) - k) (step := 1) rfl (N.get (.head _)) (by omega) fun h' hs => ?_
    obtain ⟨F', N'⟩ := Led.ext F N hs
    exact Po.in T F' N' hQ

theorem W_iter_list {l : Addr} {vs : List Value} {e : Nat} {Q : Value → Mp → HL → Prop} (hm : (l, lstOf vs e) ∈ H) (h : ∀ it X, OwnL it l 0 X → Q (.ref it) m (X ++ H)) : W C c m H (pyIter (.ref l)) Q := fun g hh tk T F N =>
  wpAny_pyIter_list (items := vs.toArray) ⟨_, N.get hm, rfl, e, rfl⟩ (Po.in T (F.push _) (N.push F _) (h _ [(_, _)] ⟨_, rfl, rfl, rfl⟩))
theorem W_range {k : Int} {t : Tok} {Q : Value → Mp → HL → Prop} (h0 : 0 ≤ k) (h1 : k < 2 ^ 62) (h : ∀ it X, OwnR it k.toNat 0 X → Q (.ref it) m (X ++ H)) :
    W C c m H (call (.type "range") [.int k t]) fun v m1 H1 => W C c m1 H1 (pyIter v) Q := fun g hh tk T F N => by
  refine call_range_1 (Po.in (tk := tk + 2) T (F.push _) (N.push F _) fun g2 h2 tk2 T2 F2 N2 => ?_)
  refine wpAny_pyIter_range (N2.get (.head _)) (small_one (by decide) (by decide) (by omega) (by omega)) ?_
  have F3 := F2.push { cls := .type "range_iterator", data := .fields #[rawInt 0, rawInt (Builtin.Range.rangeSize 0 k 1), rawInt 1] }
  have N3 := N2.push F2 { cls := .type "range_iterator", data := .fields #[rawInt 0, rawInt (Builtin.Range.rangeSize 0 k 1), rawInt 1] }
  have e : ({ cls := .type "range_iterator", data := .fields #[rawInt 0, rawInt (Builtin.Range.rangeSize 0 k 1), rawInt 1] } : Obj) = rngIt 0 k.toNat := by
    unfold rngIt
    rw [rangeSize_one]
    congr 3; congr 2; congr 2
    split <;> omega
  rw [e] at F3 N3 ⊢
  exact Po.in T2 F3 (N3.sub (.cons_cons _ (List.sublist_cons_self _ _))) (h _ [(_, _)] rfl)

inductive Turned (own : HL → Prop) (need : HL → Prop) (J : Mp → HL → Prop) (m : Mp) (H : HL) : Prop
  | mk (X4 : HL) (H4 : HL) (q0 : Le (X4 ++ H4) H) (q1 : own X4) (q2 : need H4) (q3 : J m H4) : Turned own need J m H

inductive LoopT (C : Cst) (c : Fc) (k : Nat) (own : Nat → HL → Prop) (need : HL → Prop) (J : Nat → Mp → HL → Prop) (d : Nat) (s : Shared) : Prop
  | mk (i : Nat) (g h : Heap) (tk : Nat) (m : Mp) (H X : HL) (q0 : KtsTurn c.fs c.h₀ g) (q1 : s = C.sh h tk) (q2 : Fr g c.L h m) (q3 : Led g c h (X ++ H)) (q4 : i ≤ k) (q5 : d = k - i) (q6 : own i X) (q7 : need H) (q8 : J i m H) : LoopT C c k own need J d s
theorem W_loop {it : Addr} {k : Nat} {own : Nat → HL → Prop} {out : Nat → Value → HL → Prop} {need : HL → Prop} (I : It C c it k own out need) {target : Expr} {body : List Stmt} {X : HL} {R : Result → Shared → Prop}
    (J : Nat → Mp → HL → Prop) {Qn : Mp → HL → Prop} {Qr : Value → Mp → HL → Prop} (hR1 : ∀ m H g h tk, KtsTurn c.fs c.h₀ g → Fr g c.L h m → Led g c h H → Qn m H → R (.ok .next) (C.sh h tk)) (hR2 : ∀ v m H g h tk, KtsTurn c.fs c.h₀ g → Fr g c.L h m → Led g c h H → Qr v m H → R (.ok (.ret v)) (C.sh h tk))
    (turn : ∀ i v m H X, i < k → out i v X → need H → J i m H →
      W C c m (X ++ H) (letOwnedTupleGo target (.ref it) v) fun _ m1 H1 => W C c m1 H1 (assign target env v) fun _ m2 H2 => W C c m2 H2 (execs body env) (SP (Turned (own (i + 1)) need (J (i + 1))) Qr))
    (done : ∀ m H, need H → J k m H → Qn m H)
    (hX : own 0 X) (hn : need H) (hJ : J 0 m H) {g h : Heap} {tk : Nat} (T₀ : KtsTurn c.fs c.h₀ g) (F : Fr g c.L h m) (N : Led g c h (X ++ H)) :
    codeAny C.M c.A (.forLoop target (.ref it) body [] env) R (C.sh h tk) := by
  refine codeAny_forLoop_any (LoopT C c k own need J) ?_ k
    ⟨0, g, h, tk, m, H, X, T₀, rfl, F, N, Nat.zero_le _, rfl, hX, hn, hJ⟩
  rintro d s ⟨i, g, h, tk, m, H, X, T₁, rfl, F, N, hi, rfl, hX, hn, hJ⟩
  by_cases hlt : i < k
  · refine W.run (Q := fun r m1 H1 => ∃ v X', r = some v ∧ out i v X' ∧ m1 = m ∧ H1 = X' ++ H) (I.item hlt hX hn fun v X' hX' => ⟨v, X', rfl, hX', rfl, rfl⟩) T₁ F N ?_
    rintro r g1 h1 tk1 m1 H1 T1 F1 N1 ⟨v, X', rfl, hX', rfl, rfl⟩
    refine (turn i v m1 H X' hlt hX' hn hJ).run T1 F1 N1 fun _ _ h2 tk2 m2 H2 T2 F2 N2 q => ?_
    refine q.run T2 F2 N2 fun _ _ h3 tk3 m3 H3 T3 F3 N3 q => ?_
    refine q.run T3 F3 N3 fun f _ h4 tk4 m4 H4 T4 F4 N4 q => ?_
    cases f with
    | next =>
      obtain ⟨X5, H5, s5, x5, n5, j5⟩ := q
      exact ⟨k - (i + 1), Nat.sub_lt_sub_left hlt (Nat.lt_succ_self i), i + 1, _, h4, tk4, m4, H5, X5, T4, rfl, F4, N4.le s5, hlt, rfl, x5, n5, j5⟩
    | ret v => exact hR2 _ _ _ _ _ _ T4 F4 N4 q
    | brk => exact q.elim
    | cont => exact q.elim
  · obtain rfl : i = k := by omega
    refine W.run (Q := fun r m1 H1 => r = none ∧ m1 = m ∧ H1 = H) (I.done hX hn ⟨rfl, rfl, rfl⟩) T₁ F N ?_
    rintro r g1 h1 tk1 m1 H1 T1 F1 N1 ⟨rfl, rfl, rfl⟩
    exact wpAny_execs_nil (hR1 _ _ _ _ _ T1 F1 N1 (done _ _ hn hJ))

structure Src (C : Cst) (c : Fc) (itv : Value) (J : Nat → Mp → HL → Prop) (m : Mp) (H : HL) (k : Nat) (own : Nat → HL → Prop) (out : Nat → Value → HL → Prop) (need : HL → Prop) (it : Addr) (X H3 : HL) : Prop where
  e : itv = .ref it
  I : It C c it k own out need
  l : Le (X ++ H3) H
  x : own 0 X
  n : need H3
  j : J 0 m H3

inductive ForU (C : Cst) (c : Fc) (env : Env) (target : Expr) (body : List Stmt) (Qn : Mp → HL → Prop) (Qr : Value → Mp → HL → Prop) (itv : Value) (m2 : Mp) (H2 : HL) : Prop
  | mk (k : Nat) (own : Nat → HL → Prop) (out : Nat → Value → HL → Prop) (need : HL → Prop) (it : Addr) (X H3 : HL) (J : Nat → Mp → HL → Prop) (src : Src C c itv J m2 H2 k own out need it X H3)
      (turn : ∀ i v m H X, i < k → out i v X → need H → J i m H →
        W C c m (X ++ H) (letOwnedTupleGo target (.ref it) v) fun _ m1 H1 => W C c m1 H1 (assign target env v) fun _ m2 H2 => W C c m2 H2 (execs body env) (SP (Turned (own (i + 1)) need (J (i + 1))) Qr))
      (done : ∀ m H, need H → J k m H → Qn m H) : ForU C c env target body Qn Qr itv m2 H2
theorem W_For {target iter : Expr} {body : List Stmt} {pos : Pos} {Qn : Mp → HL → Prop} {Qr : Value → Mp → HL → Prop}
    (h : W C c m H (eval iter env) fun v m1 H1 => W C c m1 H1 (pyIter v) fun itv m2 H2 => ForU C c env target body Qn Qr itv m2 H2)
    (hs : ∀ x, foldedSetIterable iter env x = pure x := by intro _; rfl) : W C c m H (exec (.For target iter body [] pos) env) (SP Qn Qr) := fun _ _ _ T F N => by
  refine wpAny_For (h.run T F N fun _ _ _ _ _ _ T1 F1 N1 q => q.run T1 F1 N1 fun _ _ _ _ _ _ T2 F2 N2 q => ?_) hs
  obtain ⟨k, own, out, need, it, X, H3, J, ⟨rfl, I, hsub, hX, hn, hJ⟩, turn, done⟩ := q
  exact W_loop I J (Qn := Qn) (Qr := Qr) (fun m H g h tk T F N q => Po.in (Q := SP Qn Qr) (v := .next) T F N q) (fun v m H g h tk T F N q => Po.in (Q := SP Qn Qr) (v := .ret v) T F N q) turn done hX hn hJ T2 F2 (N2.le hsub)

theorem W_ownedName {x : Str} {p : Pos} {it : Addr} {v : Value} {Q : Unit → Mp → HL → Prop} (h : Q () m H) : W C c m H (letOwnedTupleGo (.Name x p) (.ref it) v) Q := W.pure h
theorem W_assignName {x : Str} {p : Pos} {v : Value} {Q : Unit → Mp → HL → Prop} (h : W C c m H (storeName env x v) Q) : W C c m H (assign (.Name x p) env v) Q := fun _ _ _ T F N => wpAny_assign_Name (h _ _ _ T F N)
theorem W_ownedTupL {elts : List Expr} {k : Nat} {pos : Pos} {it l T : Addr} {i : Nat} {X : HL} {Q : Unit → Mp → HL → Prop} (hX : OwnL it l i X) (h : Q () m (X ++ H)) : W C c m (X ++ H) (letOwnedTupleGo (.Tuple elts k pos) (.ref it) (.ref T)) Q := fun _ _ _ T F N => by
  obtain ⟨o, rfl, hc, hd⟩ := hX
  exact wpAny_letOwnedTupleGo_listiter ⟨o, N.get (.head _), hc, hd⟩ (Po.in T F N h)
theorem W_unpack {elts : List Expr} {k : Nat} {pos : Pos} {a : Addr} {vs : List Value} {Q : Unit → Mp → HL → Prop} (h : W C c m H (assignInOrder ((assignEach elts env).map (·.2)) vs) Q) (hm : (a, tupOf vs) ∈ H := by k_extra "mm") (hn : (assignEach elts env).length = vs.length := by with_unfolding_all exact rfl) (hst : (assignEach elts env).findIdx? (·.1) = none := by with_unfolding_all exact rfl) : W C c m H (assign (.Tuple elts k pos) env (.ref a)) Q := fun g hh tk T F N => by
  refine assign_Tuple_tuple rfl (items := vs.toArray) ⟨_, N.get hm, rfl, 0, rfl⟩ ?_ hst fun h' he => ?_
  · simpa using hn
  · have F' : Fr g c.L h' m := F.extBut he (Nat.le_refl _)
    have N' : Led g c h' H := ⟨fun p hp => ⟨he _ _ (Nat.ne_of_lt (Heap.lt_size (N.N p hp).1)) (N.N p hp).1, (N.N p hp).2⟩, N.nd⟩
    simpa using h g h' tk T F' N'
theorem W_inOrder_nil {xs : List Value} {Q : Unit → Mp → HL → Prop} (h : Q () m H) : W C c m H (assignInOrder [] xs) Q := fun _ _ _ T F N => assignInOrder_nil (Po.in T F N h)
theorem W_inOrder_cons {t : Value → Sem Unit} {ts : List (Value → Sem Unit)} {x : Value} {xs : List Value} {Q : Unit → Mp → HL → Prop} (h : W C c m H (t x) fun _ m1 H1 => W C c m1 H1 (assignInOrder ts xs) Q) :
    W C c m H (assignInOrder (t :: ts) (x :: xs)) Q := fun _ _ _ T F N => assignInOrder_cons (h.run T F N fun _ _ _ _ _ _ T1 F1 N1 q => q _ _ _ T1 F1 N1)
theorem W_AssignTuple {elts : List Expr} {k : Nat} {tpos pos : Pos} {value : Expr} {Qn : Mp → HL → Prop} {Qr : Value → Mp → HL → Prop} (h : let Qk : Value → Mp → HL → Prop := fun v m1 H1 => W C c m1 H1 (assign (.Tuple elts k tpos) env v) fun _ m2 H2 => Qn m2 H2; W C c m H (eval value env) Qk) (hs : swapsWithSole [.Tuple elts k tpos] value pos.line env = pure false := by with_unfolding_all exact rfl) (hw : swappedStores [.Tuple elts k tpos] value env = pure none := by with_unfolding_all exact rfl) :
    W C c m H (exec (.Assign [.Tuple elts k tpos] value pos) env) (SP Qn Qr) :=
  fun _ _ _ T F N => Assign_Tuple (h.run T F N fun _ _ _ _ _ _ T1 F1 N1 q => q.run T1 F1 N1 fun _ _ _ _ _ _ T2 F2 N2 q => Po.in (Q := SP Qn Qr) T2 F2 N2 q) hs hw
end
end
section
open PySem PySem.W PySem.Calls PySem.Spec PyProof.Rows
section
variable {C : Cst} {c : Fc} {α β : Type} {m : Mp} {H : HL} {env : Env} {n : Nat}

inductive OwnT (it l : Addr) (i : Nat) (X : HL) : Prop
  | mk (o : Obj) (q0 : X = [(it, o)]) (q1 : o.cls = .type "tuple_iterator") (q2 : o.data = .fields #[.ref l, .int i 0]) : OwnT it l i X
theorem It_tuple (hh : c.A.handled = none) {it l : Addr} {vs : List Value} : It C c it vs.length (OwnT it l) (fun i v X => vs[i]? = some v ∧ OwnT it l (i + 1) X) (fun H => (l, tupOf vs) ∈ H) where
  item := by
    rintro i m H X Q hi ⟨o, rfl, hc, hd⟩ hm hQ g h tk T F N
    refine wpAny_pyNext_tuple_item (i := i) (items := vs.toArray) (x := vs[i]) ⟨o, N.get (.head _), hc, hd⟩ ⟨_, N.get (.tail _ hm), rfl, 0, rfl⟩ (by simp [hi]) fun h' hit hs => ?_
    obtain ⟨o', ho', hc', hd'⟩ := hit
    obtain ⟨F', N'⟩ := N.same F (At.head (o' := o')) hs ho'
    exact Po.in T F' N' (hQ _ [(it, o')] ⟨by simp [hi], o', rfl, hc', hd'⟩)
  done := by
    rintro m H X Q ⟨o, rfl, hc, hd⟩ hm hQ g h tk T F N
    refine wpAny_pyNext_tuple_end (i := vs.length) (items := vs.toArray) rfl ⟨o, N.get (.head _), hc, hd⟩ ⟨_, N.get (.tail _ hm), rfl, 0, rfl⟩ (by simp) fun h' hs => ?_
    obtain ⟨F', N'⟩ := Led.ext F N hs
    exact Po.in T F' N' hQ
theorem W_iter_tuple {l : Addr} {vs : List Value} {Q : Value → Mp → HL → Prop} (hm : (l, tupOf vs) ∈ H) (h : ∀ it X, OwnT it l 0 X → Q (.ref it) m (X ++ H)) : W C c m H (pyIter (.ref l)) Q := fun g hh tk T F N =>
  wpAny_pyIter_tuple (items := vs.toArray) ⟨_, N.get hm, rfl, 0, rfl⟩ (Po.in T (F.push _) (N.push F _) (h _ [(_, _)] ⟨_, rfl, rfl, rfl⟩))

noncomputable def SelfIt (C : Cst) (c : Fc) (it : Addr) (own : Nat → HL → Prop) : Prop := ∀ {m : Mp} {H X : HL} {Q : Value → Mp → HL → Prop}, own 0 X → Q (.ref it) m (X ++ H) → W C c m (X ++ H) (pyIter (.ref it)) Q
theorem Self_list {it l : Addr} : SelfIt C c it (OwnL it l) := by
  rintro m H X Q ⟨o, rfl, hc, hd⟩ hQ g h tk T F N
  exact wpAny_pyIter_listiter (l := l) (i := 0) ⟨o, N.get (.head _), hc, hd⟩ (Po.in T F N hQ)
theorem Self_tuple {it l : Addr} : SelfIt C c it (OwnT it l) := by
  rintro m H X Q ⟨o, rfl, hc, hd⟩ hQ g h tk T F N
  exact wpAny_pyIter_tupleiter (t := l) (i := 0) ⟨o, N.get (.head _), hc, hd⟩ (Po.in T F N hQ)
theorem Self_range {it : Addr} {k : Nat} : SelfIt C c it (OwnR it k) := by
  rintro m H X Q rfl hQ g h tk T F N
  exact wpAny_pyIter_rangeiter (N.get (.head _)) (Po.in T F N hQ)

noncomputable def enumObj (it : Addr) (i : Nat) (old : Value) : Obj := { cls := .type "enumerate", dict := none, data := .fields #[.none, .bool false, .ref it, rawInt i, .none, old], slots := #[] }
noncomputable def enumOut (it : Addr) (i : Nat) (x : Value) (T : Addr) : Obj := { cls := .type "enumerate", dict := none, data := .fields #[rawInt T, .bool false, .ref it, rawInt i, .none, x], slots := #[] }
inductive OwnE (en l : Addr) (i : Nat) (X : HL) : Prop
  | mk (it : Addr) (o : Obj) (old : Value) (q0 : X = [(en, enumObj it i old), (it, o)]) (q1 : o.cls = .type "list_iterator") (q2 : o.data = .fields #[.ref l, .int i 0]) : OwnE en l i X
noncomputable def OutE (en l : Addr) (vs : List Value) (i : Nat) (v : Value) (X : HL) : Prop :=
  ∃ it o T t x, v = .ref T ∧ vs[i]? = some x ∧ X = [(T, tupOf [.int i t, x]), (en, enumOut it (i + 1) x T), (it, o)] ∧ o.cls = .type "list_iterator" ∧ o.data = .fields #[.ref l, .int (i + 1) 0]
theorem enumObj_eq {h : Heap} {en it : Addr} {i : Int} {old : Value} : IsEnum h en it i old = (h.get? en = some { cls := .type "enumerate", dict := none, data := .fields #[.none, .bool false, .ref it, rawInt i, .none, old], slots := #[] }) := rfl
theorem It_enum (hh : c.A.handled = none) {en l : Addr} {vs : List Value} {e : Nat} : It C c en vs.length (OwnE en l) (OutE en l vs) (fun H => (l, lstOf vs e) ∈ H) where
  item := by
    rintro i m H X Q hi ⟨it, o, old, rfl, hc, hd⟩ hm hQ g h tk T F N
    have hne : en ≠ it := fun q => by have := N.nd; simp [q] at this
    have hlt : ∀ p ∈ H, p.1 ≠ en ∧ p.1 ≠ it := fun p hp => by
      have nd := N.nd
      simp only [List.map_append, List.map_cons, List.map_nil, List.cons_append, List.nil_append, List.nodup_cons, List.mem_cons] at nd
      exact ⟨fun q => nd.1 (.inr (List.mem_map.mpr ⟨p, hp, q⟩)), fun q => nd.2.1 (List.mem_map.mpr ⟨p, hp, q⟩)⟩
    have D1 := N.N _ (.head _)
    have D2 := N.N _ (.tail _ (.head _))
    refine wpAny_pyNext_enum_item (it := it) (l := l) (i := i) (items := vs.toArray) (x := vs[i]) (old := old) (N.get (.head _)) ⟨o, N.get (.tail _ (.head _)), hc, hd⟩ ⟨_, N.get (.tail _ (.tail _ hm)), rfl, e, rfl⟩ (by simp [hi]) hne fun h' he' hit' hT' hz' hk' => ?_
    obtain ⟨o', ho', hc', hd'⟩ := hit'
    have hs : (C.sh h tk).heap = h := rfl
    rw [hs] at hT' hz' he'
    have fresh : g.get? h.objs.size = none := by
      cases q : g.get? h.objs.size with
      | none => rfl
      | some o => exact absurd (Heap.lt_size (F.keep _ _ q)) (Nat.lt_irrefl _)
    have hL : c.L ≠ h.objs.size := Nat.ne_of_lt F.ns.lt
    have e1 : c.L ≠ en := fun q => D1.2.1 q.symm
    have e2 : c.L ≠ it := fun q => D2.2.1 q.symm
    have F' : Fr g c.L h' m := ⟨F.ns.at' fun o x => hk' _ o e1 e2 x, fun b o x => hk' b o (fun q => by rw [q, D1.2.2] at x; cases x) (fun q => by rw [q, D2.2.2] at x; cases x) (F.keep b o x), F.above⟩
    have N' : Led g c h' ([(h.objs.size, tupOf [.int i tk, vs[i]]), (en, enumOut it (i + 1) vs[i] h.objs.size), (it, o')] ++ H) := by
      refine ⟨fun p hp => ?_, ?_⟩
      · simp only [List.cons_append, List.nil_append, List.mem_cons] at hp
        rcases hp with rfl | rfl | rfl | hp
        · exact ⟨hT', Ne.symm hL, fresh⟩
        · refine ⟨?_, D1.2⟩
          unfold enumOut
          rw [show ((i + 1 : Nat) : Int) = (i : Int) + 1 by omega]
          exact he'
        · exact ⟨ho', D2.2⟩
        · have P := N.N p (List.mem_append_right _ hp)
          exact ⟨hk' _ _ (hlt p hp).1 (hlt p hp).2 P.1, P.2⟩
      · have nd := N.nd
        simp only [List.map_append, List.map_cons, List.map_nil, List.cons_append, List.nil_append] at nd ⊢
        refine List.nodup_cons.mpr ⟨fun q => ?_, nd⟩
        rcases List.mem_cons.mp q with q | q
        · exact Nat.ne_of_lt (Heap.lt_size D1.1) q.symm
        · rcases List.mem_cons.mp q with q | q
          · exact Nat.ne_of_lt (Heap.lt_size D2.1) q.symm
          · obtain ⟨p, hp, q⟩ := List.mem_map.mp q
            exact Nat.ne_of_lt (Heap.lt_size (N.N p (List.mem_append_right _ hp)).1) q
    exact Po.in (tk := tk + 1) T F' N' (hQ _ _ ⟨it, o', _, tk, vs[i], rfl, by simp [hi], rfl, hc', hd'⟩)
  done := by
    rintro m H X Q ⟨it, o, old, rfl, hc, hd⟩ hm hQ g h tk T F N
    refine wpAny_pyNext_enum_end (it := it) (l := l) (i := vs.length) (items := vs.toArray) (old := old) hh (N.get (.head _)) ⟨o, N.get (.tail _ (.head _)), hc, hd⟩ ⟨_, N.get (.tail _ (.tail _ hm)), rfl, e, rfl⟩ (by simp) fun h' hs => ?_
    have N2 : Led g c h ((it, o) :: H) := N.le (Le.of_sub (List.sublist_cons_self _ _))
    obtain ⟨F', N'⟩ := Led.ext F N2 hs
    exact Po.in T F' N' hQ
theorem W_ownedEnum {elts : List Expr} {k : Nat} {pos : Pos} {en it T : Addr} {i : Nat} {x : Value} {o : Obj} {t : Obj} {Q : Unit → Mp → HL → Prop}
    (h : Q () m ((T, t) :: (en, enumObj it i x) :: (it, o) :: H)) : W C c m ((T, t) :: (en, enumOut it i x T) :: (it, o) :: H) (letOwnedTupleGo (.Tuple elts k pos) (.ref en) (.ref T)) Q := fun _ _ _ T F N => by
  refine wpAny_letOwnedTupleGo_enum (N.get (.tail _ (.head _))) fun h' he hs => ?_
  obtain ⟨F', N'⟩ := N.same F (At.tail (At.head (o' := enumObj it i x))) hs he
  exact Po.in T F' N' h
theorem W_enumerate {l : Addr} {vs : List Value} {e : Nat} {Q : Value → Mp → HL → Prop} (hm : (l, lstOf vs e) ∈ H) (h : ∀ en X, OwnE en l 0 X → Q (.ref en) m (X ++ H)) :
    W C c m H (call (.type "enumerate") [.ref l]) fun v m1 H1 => W C c m1 H1 (pyIter v) Q := fun g hh tk T F N => by
  refine call_enumerate_list (items := vs.toArray) ⟨_, N.get hm, rfl, e, rfl⟩ fun h' he hit hz hk => ?_
  obtain ⟨o, ho, hc, hd⟩ := hit
  have hs : (C.sh hh tk).heap = hh := rfl
  rw [hs] at he ho hz hk
  have none_of : ∀ a, hh.objs.size ≤ a → g.get? a = none := fun a ha => by
    cases q : g.get? a with
    | none => rfl
    | some o => exact absurd (Heap.lt_size (F.keep _ _ q)) (Nat.not_lt.mpr ha)
  have F' : Fr g c.L h' m := F.keeps hk
  have N' : Led g c h' ((hh.objs.size + 1, enumObj hh.objs.size 0 .none) :: (hh.objs.size, o) :: H) := by
    refine ⟨fun p hp => ?_, ?_⟩
    · rcases List.mem_cons.mp hp with rfl | hp
      · exact ⟨he, Ne.symm (Nat.ne_of_lt (Nat.lt_succ_of_lt F.ns.lt)), none_of _ (Nat.le_succ _)⟩
      · rcases List.mem_cons.mp hp with rfl | hp
        · exact ⟨ho, Ne.symm (Nat.ne_of_lt F.ns.lt), none_of _ (Nat.le_refl _)⟩
        · have P := N.N p hp; exact ⟨hk _ _ P.1, P.2⟩
    · have lt : ∀ p ∈ H, p.1 < hh.objs.size := fun p hp => Heap.lt_size (N.N p hp).1
      simp only [List.map_cons]
      refine List.nodup_cons.mpr ⟨fun q => ?_, List.nodup_cons.mpr ⟨fun q => ?_, N.nd⟩⟩
      · rcases List.mem_cons.mp q with q | q
        · exact absurd q (Nat.succ_ne_self _)
        · obtain ⟨p, hp, q⟩ := List.mem_map.mp q
          have := lt p hp; rw [q] at this; exact absurd this (Nat.not_lt.mpr (Nat.le_succ _))
      · obtain ⟨p, hp, q⟩ := List.mem_map.mp q
        have := lt p hp; rw [q] at this; exact absurd this (Nat.lt_irrefl _)
  exact Po.in T F' N' fun g2 h2 tk2 T2 F2 N2 => wpAny_pyIter_enum (it := hh.objs.size) (i := ((0 : Nat) : Int)) (old := .none) (N2.get (.head _)) (Po.in T2 F2 N2 (h _ [(_, _), (_, _)] ⟨hh.objs.size, o, .none, rfl, hc, hd⟩))
end
end
section
open PySem PySem.W PySem.Calls PySem.Spec PyProof.Rows PyProof.Rows.LCg
section
variable {C : Cst} {c : Fc} {α β : Type} {m : Mp} {H : HL} {env : Env} {n : Nat}

-- while
inductive WhT (C : Cst) (c : Fc) (J : Nat → Mp → HL → Prop) (k : Nat) (s : Shared) : Prop
  | mk (g h : Heap) (tk : Nat) (m : Mp) (H : HL) (q0 : KtsTurn c.fs c.h₀ g) (q1 : s = C.sh h tk) (q2 : Fr g c.L h m) (q3 : Led g c h H) (q4 : J k m H) : WhT C c J k s
theorem W_While {test : Expr} {body : List Stmt} {pos : Pos} {Qn : Mp → HL → Prop} {Qr : Value → Mp → HL → Prop} (J : Nat → Mp → HL → Prop) (k : Nat) (h0 : J k m H)
    (turn : ∀ k m H, J k m H → W C c m H (isTrue test env (eval test env)) fun b m1 H1 =>
      (b = true → W C c m1 H1 (execs body env) (SP (fun m2 H2 => ∃ k' H3, k' < k ∧ Le H3 H2 ∧ J k' m2 H3) Qr)) ∧ (b = false → Qn m1 H1)) :
    W C c m H (exec (.While test body [] pos) env) (SP Qn Qr) := fun _ _ _ T F N => by
  refine wpAny_While (codeAny_whileLoop (WhT C c J) ?_ k ⟨_, _, _, _, _, T, rfl, F, N, h0⟩)
  rintro k s ⟨g, h, tk, m, H, T, rfl, F, N, hJ⟩
  refine (turn k m H hJ).run T F N fun b _ h1 tk1 m1 H1 T1 F1 N1 q => ?_
  cases b with
  | true =>
    refine (q.1 rfl).run T1 F1 N1 fun f g2 h2 tk2 m2 H2 T2 F2 N2 q => ?_
    cases f with
    | next =>
      obtain ⟨k', H3, hk, l, j⟩ := q
      exact ⟨k', hk, g2, h2, tk2, m2, H3, T2, rfl, F2, N2.le l, j⟩
    | ret v => exact Po.in (Q := SP Qn Qr) (v := .ret v) T2 F2 N2 q
    | brk => exact q.elim
    | cont => exact q.elim
  | false => exact wpAny_execs_nil (Po.in (Q := SP Qn Qr) (v := .next) T1 F1 N1 (q.2 rfl))

-- list comprehensions
noncomputable abbrev Fc.comp (c : Fc) (scope : Scope) (cl : List (Str × Addr)) (D : Addr) : Env := compEnvC scope cl D c.env
theorem W_tests_nil {Q : Bool → Mp → HL → Prop} (h : Q true m H) :
    W C c m H (forIn ([] : List Expr) true fun c r => if r = true then do let ok ← isTrue c env (eval c env); pure (ForInStep.yield ok) else pure (ForInStep.yield r)) Q := fun _ _ _ T F N => wpAny_tests_nil (Po.in T F N h)
theorem W_tests_one {t : Expr} {Q : Bool → Mp → HL → Prop} (h : W C c m H (isTrue t env (eval t env)) Q) :
    W C c m H (forIn [t] true fun c r => if r = true then do let ok ← isTrue c env (eval c env); pure (ForInStep.yield ok) else pure (ForInStep.yield r)) Q := fun _ _ _ T F N => wpAny_tests_one (h _ _ _ T F N)

inductive CompEnd (D A : Addr) (ys : List Value) (e : Nat) (own : HL → Prop) (need : HL → Prop) (J : Mp → HL → Prop) (m : Mp) (H : HL) : Prop
  | mk (X4 : HL) (oC : Obj) (mc : Mp) (H4 : HL) (q0 : Le (X4 ++ (D, oC) :: (A, lstOf ys e) :: H4) H) (q1 : own X4) (q2 : NsObj oC mc) (q3 : need H4) (q4 : J m H4) : CompEnd D A ys e own need J m H

inductive CompT (C : Cst) (c : Fc) (k : Nat) (own : Nat → HL → Prop) (need : HL → Prop) (J : Nat → List Value → Mp → HL → Prop) (D A : Addr) (d : Nat) (s : Shared) : Prop
  | mk (i : Nat) (ys : List Value) (e : Nat) (mc : Mp) (oC : Obj) (g h : Heap) (tk : Nat) (m : Mp) (H X : HL) (q0 : KtsTurn c.fs c.h₀ g) (q1 : s = C.sh h tk) (q2 : Fr g c.L h m) (q3 : Led g c h (X ++ (D, oC) :: (A, lstOf ys e) :: H)) (q4 : i ≤ k) (q5 : d = k - i) (q6 : own i X) (q7 : need H) (q8 : J i ys m H) (q9 : NsObj oC mc) (q10 : ys.length ≤ i) : CompT C c k own need J D A d s
theorem comp_all {elt iter : Expr} {x : Str} {px : Pos} {ifs : List Expr} {scope : Scope} {cl : List (Str × Addr)} {pos : Pos} {use : Option (Value → Sem Unit)} {P : Value → Shared → Prop}
    (hcell : ∀ y ∈ scope.names, y.2 ≠ .cell) (hkind : scope.kind = .function) (hx : scope.names.lookup x = some .local)
    {gg h2 : Heap} {tk2 : Nat} {m2 : Mp} {H2 : HL} {k : Nat} {own : Nat → HL → Prop} {out : Nat → Value → HL → Prop} {need : HL → Prop} {it : Addr} {X H3 : HL} {J : Nat → List Value → Mp → HL → Prop}
    (T2 : KtsTurn c.fs c.h₀ gg) (F2 : Fr gg c.L h2 m2) (N2 : Led gg c h2 H2) (hS : Src C c (.ref it) (fun i => J i []) m2 H2 k own out need it X H3) (hself : SelfIt C c it own) (hksz : k ≤ sizeLine) (hneed : ∀ {p q H}, need H → need (p :: q :: H))
    (turn : ∀ i v ys m H X D oC mc A e, i < k → ys.length ≤ i → out i v X → need H → J i ys m H → NsObj oC mc → mc x = some v →
        W C c m (X ++ (D, oC) :: (A, lstOf ys e) :: H) (forIn ifs true fun t r => if r = true then do let ok ← isTrue t (c.comp scope cl D) (eval t (c.comp scope cl D)); pure (ForInStep.yield ok) else pure (ForInStep.yield r)) fun ok m1 H1 =>
          (ok = true → W C c m1 H1 (eval elt (c.comp scope cl D)) fun y m2 H2 => CompEnd D A ys e (own (i + 1)) need (J (i + 1) (ys ++ [y])) m2 H2) ∧
          (ok = false → CompEnd D A ys e (own (i + 1)) need (J (i + 1) ys) m1 H1))
    (fin : ∀ ys m H A D oC mc e g h tk, KtsTurn c.fs c.h₀ g → Fr g c.L h m → Led g c h ((D, oC) :: (A, lstOf ys e) :: H) → NsObj oC mc → ys.length ≤ k → need H → J k ys m H → compPost C.M c.A (fun _ _ => False) use P (.ref A) D (.ok .next) (C.sh h tk)) :
    wpAny C.M c.A (newList []) (fun acc s₃ => wpAny C.M c.A (newFunctionEnv scope c.env.globals cl [] c.env.qual none .none (some c.env)) (fun cenv s₄ =>
        codeAny C.M c.A (.compStart (.ListComp elt [⟨.Name x px, iter, ifs, 0⟩] scope pos) 0 (.ref it) acc { cenv with scope := relabel scope c.env }) (compPost C.M c.A (fun _ _ => False) use P acc cenv.locals) s₄) (fun _ _ => False) s₃) (fun _ _ => False) (C.sh h2 tk2) := by
  obtain ⟨-, I, hsub, hX, hn, hJ⟩ := hS
  have N2 := N2.le hsub
  refine wpAny_newObj_type (wpAny_newFunctionEnv hcell (by intro y hy; simp at hy) (fun h₁ hns₁ hsb₁ => ?_) hkind)
  obtain ⟨oC, heC, hoC⟩ := ns_obj hns₁
  have F3 := F2.push { cls := .type "list", dict := none, data := .seq ([] : List Value).toArray }
  have N3 := N2.push F2 { cls := .type "list", dict := none, data := .seq ([] : List Value).toArray }
  have hCs : ((C.sh h2 tk2).heap.push { cls := .type "list", data := .seq ([] : List Value).toArray }) = h2.push { cls := .type "list", dict := none, data := .seq ([] : List Value).toArray } := rfl
  simp only [hCs] at hns₁ hsb₁ heC ⊢
  generalize hH2 : h2.push { cls := .type "list", dict := none, data := .seq ([] : List Value).toArray } = g2 at *
  have F4 := F3.push { cls := .type "dict", data := .dict #[] }
  have N4 := N3.push F3 { cls := .type "dict", data := .dict #[] }
  obtain ⟨F5, N5⟩ := N4.same F4 (At.head (o' := oC)) (by simpa using hsb₁) (by simpa using heC)
  show codeAny _ _ (.compStart _ 0 _ _ (c.comp scope cl g2.objs.size)) _ _
  have N6 : Led gg c h₁ (X ++ (g2.objs.size, oC) :: ((C.sh h2 tk2).heap.objs.size, lstOf [] 0) :: H3) := N5.le (by
    refine Le.of_perm ?_
    refine List.Perm.trans ?_ (List.Perm.refl _)
    exact (List.perm_middle.trans (List.Perm.cons _ List.perm_middle)))
  have loop : ∀ gg g1 tk, KtsTurn c.fs c.h₀ gg → Fr gg c.L g1 m2 → Led gg c g1 (X ++ (g2.objs.size, oC) :: ((C.sh h2 tk2).heap.objs.size, lstOf [] 0) :: H3) → codeAny C.M c.A (.compLoop (.ListComp elt [⟨.Name x px, iter, ifs, 0⟩] scope pos) 0 (.ref it) (.ref (C.sh h2 tk2).heap.objs.size) (c.comp scope cl g2.objs.size)) (compPost C.M c.A (fun _ _ => False) use P (.ref (C.sh h2 tk2).heap.objs.size) g2.objs.size) (C.sh g1 tk) := by
    intro gg g1 tk G4 G5 G6
    generalize (C.sh h2 tk2).heap.objs.size = A at *
    generalize g2.objs.size = D at *
    refine codeAny_compLoop_tests (CompT C c k own need J D A) ?_ k
      ⟨0, [], 0, _, oC, gg, g1, tk, m2, H3, X, G4, rfl, G5, G6, Nat.zero_le _, rfl, hX, hn, hJ, hoC, Nat.le_refl _⟩
    rintro d s ⟨i, ys, e, mc, oC, g, h, tk, m, H, X, T₁, rfl, F, N, hi, rfl, hX, hn, hJ, hoC, hyl⟩
    by_cases hlt : i < k
    · refine W.run (Q := fun r m1 H1 => ∃ v X', r = some v ∧ out i v X' ∧ m1 = m ∧ H1 = X' ++ (D, oC) :: (A, lstOf ys e) :: H) (I.item hlt hX (hneed hn) fun v X' hX' => ⟨v, X', rfl, hX', rfl, rfl⟩) T₁ F N ?_
      rintro r g1 h1 tk1 m1 H1 T1 F1 N1 ⟨v, X', rfl, hX', rfl, rfl⟩
      have hD := N1.N (D, oC) (List.mem_append_right _ (.head _))
      have atD : ∀ o', At D oC o' (X' ++ (D, oC) :: (A, lstOf ys e) :: H) (X' ++ (D, o') :: (A, lstOf ys e) :: H) := fun o' => At.app _ At.head
      refine wpAny_assign_Name (wpAny_storeName_local (env := c.comp scope cl D) (lookup_relabel_local hx) (hoC.ns hD.1) (fun h2 hn2 hs2 => ?_) (by simp [compEnvC, relabel, hkind]))
      obtain ⟨oC2, heC2, hoC2⟩ := ns_obj hn2
      obtain ⟨F2, N2⟩ := N1.same F1 (atD oC2) hs2 heC2
      refine (turn i v ys m1 H X' D oC2 _ A e hlt hyl hX' hn hJ hoC2 (by simp)).run (tk := tk1 + 1) T1 F2 N2 fun ok g3 h3 tk3 m3 H3 T3 F3 N3 q => ?_
      cases ok with
      | true =>
        refine (q.1 rfl).run T3 F3 N3 fun y g4 h4 tk4 m4 H4 T4 F4 N4 q => ?_
        obtain ⟨X5, oC5, mc5, H5, l5, x5, o5, n5, j5⟩ := q
        have N5 := N4.le l5
        refine append_at (N5.get (List.mem_append_right _ (.tail _ (.head _)))) (fun h' hs ho => ?_) (by (have hy : ys.length ≤ k := by omega); simp; omega)
        obtain ⟨F6, N6⟩ := N5.same F4 (At.app X5 (At.tail (At.head (o' := lstOf (ys ++ [y]) (e + 1))))) hs (by rw [ho]; simp)
        exact ⟨k - (i + 1), Nat.sub_lt_sub_left hlt (Nat.lt_succ_self i), i + 1, ys ++ [y], e + 1, mc5, oC5, g4, h', tk4, m4, H5, X5, T4, rfl, F6, N6, hlt, rfl, x5, n5, j5, o5, by simp; omega⟩
      | false =>
        obtain ⟨X5, oC5, mc5, H5, l5, x5, o5, n5, j5⟩ := q.2 rfl
        exact ⟨k - (i + 1), Nat.sub_lt_sub_left hlt (Nat.lt_succ_self i), i + 1, ys, e, mc5, oC5, g3, h3, tk3, m3, H5, X5, T3, rfl, F3, N3.le l5, hlt, rfl, x5, n5, j5, o5, by omega⟩
    · obtain rfl : i = k := by omega
      refine W.run (Q := fun r m1 H1 => r = none ∧ m1 = m ∧ H1 = (D, oC) :: (A, lstOf ys e) :: H) (I.done hX (hneed hn) ⟨rfl, rfl, rfl⟩) T₁ F N ?_
      rintro r g1 h1 tk1 m1 H1 T1 F1 N1 ⟨rfl, rfl, rfl⟩
      exact fin _ _ _ _ _ _ _ _ _ _ _ T1 F1 N1 hoC hyl hn hJ
  refine codeAny_compStart_list (loop _ _ _ T2 F5 N6) ?_
  refine W.run (Q := fun r m1 H1 => r = .ref it ∧ m1 = m2 ∧ H1 = X ++ (g2.objs.size, oC) :: ((C.sh h2 tk2).heap.objs.size, lstOf [] 0) :: H3) (hself hX ⟨rfl, rfl, rfl⟩) T2 F5 N6 ?_
  rintro r g6 h6 tk6 m6 H6 T6 F6 N6 ⟨rfl, rfl, rfl⟩
  exact loop _ _ _ T6 F6 N6
inductive CompU (C : Cst) (c : Fc) (elt : Expr) (x : Str) (ifs : List Expr) (scope : Scope) (cl : List (Str × Addr)) (R : Addr → Mp → HL → Prop) (itv : Value) (m2 : Mp) (H2 : HL) : Prop
  | mk (k : Nat) (own : Nat → HL → Prop) (out : Nat → Value → HL → Prop) (need : HL → Prop) (it : Addr) (X H3 : HL) (J : Nat → List Value → Mp → HL → Prop) (src : Src C c itv (fun i => J i []) m2 H2 k own out need it X H3) (self : SelfIt C c it own) (sz : k ≤ sizeLine) (hneed : ∀ {p q H}, need H → need (p :: q :: H))
      (turn : ∀ i v ys m H X D oC mc A e, i < k → ys.length ≤ i → out i v X → need H → J i ys m H → NsObj oC mc → mc x = some v →
        W C c m (X ++ (D, oC) :: (A, lstOf ys e) :: H) (forIn ifs true fun t r => if r = true then do let ok ← isTrue t (c.comp scope cl D) (eval t (c.comp scope cl D)); pure (ForInStep.yield ok) else pure (ForInStep.yield r)) fun ok m1 H1 =>
          (ok = true → W C c m1 H1 (eval elt (c.comp scope cl D)) fun y m2 H2 => CompEnd D A ys e (own (i + 1)) need (J (i + 1) (ys ++ [y])) m2 H2) ∧
          (ok = false → CompEnd D A ys e (own (i + 1)) need (J (i + 1) ys) m1 H1))
      (fin : ∀ ys m H A e, ys.length ≤ k → need H → J k ys m H → R A m ((A, lstOf ys e) :: H)) : CompU C c elt x ifs scope cl R itv m2 H2
theorem W_ListComp {elt iter : Expr} {x : Str} {px : Pos} {ifs : List Expr} {scope : Scope} {cl : List (Str × Addr)} {pos : Pos} {Q : Value → Mp → HL → Prop}
    (hclos : closureFor scope c.env = pure cl) (hcell : ∀ y ∈ scope.names, y.2 ≠ .cell) (hkind : scope.kind = .function)
    (hnames : ∀ y ∈ scope.names, y.2 = .local → scope.names.lookup y.1 = some .local) (hx : scope.names.lookup x = some .local)
    (h : W C c m H (eval iter c.env) fun v m1 H1 => W C c m1 H1 (pyIter v) fun itv m2 H2 => CompU C c elt x ifs scope cl (fun A m H => Q (.ref A) m H) itv m2 H2)
    (hs : ∀ x, foldedSetIterable iter c.env x = pure x := by intro _; rfl) :
    W C c m H (eval (.ListComp elt [⟨.Name x px, iter, ifs, 0⟩] scope pos) c.env) Q := fun _ _ _ T F N => by
  rw [eval_ListComp]
  refine wpAny_comprehension_free (use := none) rfl hs hclos hkind hnames (h.run T F N fun v _ h1 tk1 m1 H1 T1 F1 N1 q => q.run T1 F1 N1 fun itv gg h2 tk2 m2 H2 T2 F2 N2 q => ?_)
  obtain ⟨k, own, out, need, it, X, H3, J, hS, hself, hksz, hneed, turn, fin⟩ := q
  obtain rfl : itv = .ref it := hS.e
  refine comp_all hcell hkind hx T2 F2 N2 hS hself hksz hneed turn fun ys m H A D oC mc e g h tk T1 F1 N1 hoC hyl hn hJ => ?_
  have hD := N1.N (D, oC) (.head _)
  refine ⟨_, hoC.ns hD.1, fun h' hs => ?_⟩
  obtain ⟨F2, N2⟩ := Led.ext F1 N1 hs.extBut
  exact Po.in T1 F2 N2 (fin ys _ _ A e hyl hn hJ)
theorem W_AssignComp {elt iter : Expr} {x y : Str} {px py spos : Pos} {ifs : List Expr} {scope : Scope} {cl : List (Str × Addr)} {pos : Pos} {Qn : Mp → HL → Prop} {Qr : Value → Mp → HL → Prop}
    (hsw : swapsWith (.ListComp elt [⟨.Name x px, iter, ifs, 0⟩] scope pos) (some (.Name y py)) spos.line c.env = pure true) (hyl : c.env.kindOf y = some .local) (hkc : c.cs.kind = .function)
    (hclos : closureFor scope c.env = pure cl) (hcell : ∀ y ∈ scope.names, y.2 ≠ .cell) (hkind : scope.kind = .function)
    (hnames : ∀ y ∈ scope.names, y.2 = .local → scope.names.lookup y.1 = some .local) (hx : scope.names.lookup x = some .local)
    (h : W C c m H (eval iter c.env) fun v m1 H1 => W C c m1 H1 (pyIter v) fun itv m2 H2 => CompU C c elt x ifs scope cl (fun A m H => Qn (upd m y (.ref A)) H) itv m2 H2)
    (hs : ∀ x, foldedSetIterable iter c.env x = pure x := by intro _; rfl) :
    W C c m H (exec (.Assign [.Name y py] (.ListComp elt [⟨.Name x px, iter, ifs, 0⟩] scope pos) spos) c.env) (SP Qn Qr) := fun _ _ _ T F N => by
  have hpp : (c.cs.kind == .class || (c.cs.kind == .module && c.L != mainGlobals)) = false := by rw [hkc]; rfl
  rw [exec_Assign_Name_used _ _ _ _ hsw]
  refine wpAny_bind (wpAny_standAt (wpAny_bind ?_))
  show wpAny _ c.A (do let _ ← comprehension (.ListComp elt [⟨.Name x px, iter, ifs, 0⟩] scope pos) scope c.env _ (newList []) false (eval iter c.env) (some (assign (.Name y py) c.env))) _ _ _
  refine wpAny_bind (wpAny_mono (wpAny_comprehension_free (use := some (assign (.Name y py) c.env)) (Q := fun _ s' => Po C c (SP Qn Qr) .next s') rfl hs hclos hkind hnames ?_) (fun _ s' hq => wpAny_pure (wpAny_pure hq)) fun _ _ e => e)
  refine (h.run T F N fun v _ h1 tk1 m1 H1 T1 F1 N1 q => q.run T1 F1 N1 fun itv gg h2 tk2 m2 H2 T2 F2 N2 q => ?_)
  obtain ⟨k, own, out, need, it, X, H3, J, hS, hself, hksz, hneed, turn, fin⟩ := q
  obtain rfl : itv = .ref it := hS.e
  refine comp_all hcell hkind hx T2 F2 N2 hS hself hksz hneed turn fun ys m H A D oC mc e g h tk T1 F1 N1 hoC hyl0 hn hJ => ?_
  have hD := N1.N (D, oC) (.head _)
  show wpAny _ c.A (assign (.Name y py) c.env (.ref A)) _ _ _
  refine wpAny_assign_Name (wpAny_storeName_local (s := C.sh h tk) hyl F1.ns (fun h2 hn2 hs2 => ?_) hpp)
  have F2 := F1.set hn2 hs2
  have N2 := N1.set hs2
  refine ⟨mc, (hoC.ns hD.1).sameBut hs2 hD.2.1, fun h3 hs3 => ?_⟩
  obtain ⟨F3, N3⟩ := Led.ext F2 N2 hs3.extBut
  exact Po.in (Q := SP Qn Qr) (v := .next) T1 F3 N3 (fin ys _ _ A e hyl0 hn hJ)
end
end
section
open PySem PySem.W PySem.Calls PySem.Spec PyProof.Rows PyProof.Rows.LCg
section
variable {C : Cst} {c : Fc} {α β : Type} {m : Mp} {H : HL} {env : Env} {n : Nat}

-- names inside a comprehension
theorem W_cLocal {x : Str} {pos : Pos} {v : Value} {scope : Scope} {cl : List (Str × Addr)} {D : Addr} {oC : Obj} {mc : Mp} {Q : Value → Mp → HL → Prop} (h : Q v m H) (hx : some .local = (c.comp scope cl D).kindOf x := by with_unfolding_all exact rfl) (hk : scope.kind = .function := by with_unfolding_all exact rfl) (hd : (x == ("__debug__" : Str)) = false := by with_unfolding_all decide) (hm : (D, oC) ∈ H := by k_extra "mm") (hC : NsObj oC mc := by assumption) (hv : mc x = some v := by k_extra "lk") :
    W C c m H (eval (.Name x pos) (c.comp scope cl D)) Q := fun _ _ _ T F N =>
  wpAny_Name (wpAny_loadName_local hk hx.symm (hC.ns (N.get hm)) hv (Po.in T F N h)) hd
theorem W_cCell {x : Str} {pos : Pos} {v : Value} {scope : Scope} {cl : List (Str × Addr)} {D a : Addr} {o : Obj} {Q : Value → Mp → HL → Prop} (h : Q v m H) (hx : some .cell = (c.comp scope cl D).kindOf x := by with_unfolding_all exact rfl) (hk : scope.kind = .function := by with_unfolding_all exact rfl) (hd : (x == ("__debug__" : Str)) = false := by with_unfolding_all decide) (hc : cl.lookup x = some a := by with_unfolding_all exact rfl) (hm : (a, o) ∈ H := by k_extra "mm") (ho : o.data = .cell (some v) := by assumption) :
    W C c m H (eval (.Name x pos) (c.comp scope cl D)) Q := fun _ _ _ T F N => wpAny_Name (wpAny_loadName_cell hk hx.symm hc ⟨o, N.get hm, ho⟩ (Po.in T F N h)) hd
theorem W_cFree {x : Str} {pos : Pos} {v : Value} {scope : Scope} {cl : List (Str × Addr)} {D a : Addr} {o : Obj} {Q : Value → Mp → HL → Prop} (h : Q v m H) (hx : some .free = (c.comp scope cl D).kindOf x := by with_unfolding_all exact rfl) (hk : scope.kind = .function := by with_unfolding_all exact rfl) (hd : (x == ("__debug__" : Str)) = false := by with_unfolding_all decide) (hn : (x == ("__classdict__" : Str)) = false := by with_unfolding_all decide) (hc : cl.lookup x = some a := by with_unfolding_all exact rfl) (hm : (a, o) ∈ H := by k_extra "mm") (ho : o.data = .cell (some v) := by assumption) :
    W C c m H (eval (.Name x pos) (c.comp scope cl D)) Q := fun _ _ _ T F N => wpAny_Name (wpAny_loadName_free hk hx.symm hc ⟨o, N.get hm, ho⟩ (Po.in T F N h) hn) hd
theorem W_cGlob {x : Str} {pos : Pos} {v : Value} {scope : Scope} {cl : List (Str × Addr)} {D : Addr} {Q : Value → Mp → HL → Prop} (h : Q v m H) (hx : some .globalImplicit = (c.comp scope cl D).kindOf x := by with_unfolding_all exact rfl) (hk : scope.kind = .function := by with_unfolding_all exact rfl) (hd : (x == ("__debug__" : Str)) = false := by with_unfolding_all decide) (O : Ok C c n := by assumption) (e : nsIn (Mine.kk C.w.params) mainGlobals x = some (some v) := by with_unfolding_all k_is) :
    W C c m H (eval (.Name x pos) (c.comp scope cl D)) Q := fun _ _ _ T F N =>
  Name_function_global hk hx.symm (loadGlobal_global (env := c.comp scope cl D) ((topRead_of (O.T T)).g.keeps F.keep) (mg_of (O.K T) (topRead_of (O.T T)).g e) (Po.in T F N h)) hd
theorem W_cBltn {x : Str} {pos : Pos} {v : Value} {scope : Scope} {cl : List (Str × Addr)} {D : Addr} {Q : Value → Mp → HL → Prop} (h : Q v m H) (hx : some .globalImplicit = (c.comp scope cl D).kindOf x := by with_unfolding_all exact rfl) (hk : scope.kind = .function := by with_unfolding_all exact rfl) (hd : (x == ("__debug__" : Str)) = false := by with_unfolding_all decide) (hn : x ≠ "__name__" := by with_unfolding_all decide) (O : Ok C c n := by assumption) (e : nsIn (Mine.kk C.w.params) mainGlobals x = some none := by with_unfolding_all k_is) (hv : bootBuiltins x = some v := by with_unfolding_all boot_by_name) :
    W C c m H (eval (.Name x pos) (c.comp scope cl D)) Q := fun _ _ _ T F N =>
  Name_function_global hk hx.symm (loadGlobal_builtin (env := c.comp scope cl D) ((topRead_of (O.T T)).g.keeps F.keep) (mg_none_of (O.K T) (topRead_of (O.T T)).g e) ((topRead_of (O.T T)).b.keeps F.keep) (((topRead_of (O.T T)).builtins x hn).trans hv) (Po.in T F N h)) hd

-- instances: their fields as a map
inductive Flds (f : Mp) (k : Nat) (o : Obj) : Prop
  | mk (es : List DictEntry) (n : Nat) (q0 : o = dictOf es n) (q1 : es.length ≤ k) (q2 : es.any (·.refKey) = false) (q3 : ∀ name, (es.find? (·.key.isStr name)).map (·.val) = f name) : Flds f k o
theorem putL_len (name : Str) (hsh : Int) (key v : Value) : ∀ es : List DictEntry, (putL name hsh key v es).length ≤ es.length + 1
  | [] => Nat.le_refl _
  | e :: r => by
    unfold putL
    split
    · exact Nat.le_succ _
    · have := putL_len name hsh key v r; simp only [List.length_cons]; omega
theorem isStr_str (a b : Str) (t : Tok) : (Value.str a t).isStr b = (a == b) := rfl
theorem find_putL (name x : Str) (hsh : Int) (t : Tok) (v : Value) : ∀ es : List DictEntry,
    ((putL name hsh (.str name t) v es).find? (·.key.isStr x)).map (·.val) = if x = name then some v else (es.find? (·.key.isStr x)).map (·.val)
  | [] => by
    unfold putL
    by_cases h : x = name
    · subst h; simp [isStr_str]
    · have : (name == x) = false := by simpa using fun q => h q.symm
      simp [isStr_str, this, h]
  | e :: r => by
    unfold putL
    by_cases hk : e.key.isStr name = true
    · rw [if_pos hk]
      by_cases h : x = name
      · subst h; simp [List.find?_cons, hk]
      · have hx : e.key.isStr x = false := by
          revert hk
          cases hke : e.key <;> simp [Value.isStr]
          intro q; subst q; exact fun q => h q.symm
        simp [List.find?_cons, hx, h]
    · rw [if_neg hk]
      have ih := find_putL name x hsh t v r
      by_cases hx : e.key.isStr x = true
      · have : x ≠ name := fun q => hk (q ▸ hx)
        simp [List.find?_cons, hx, this]
      · simp only [Bool.not_eq_true] at hx
        simp only [List.find?_cons, hx]
        exact ih
theorem ref_putL (name : Str) (hsh : Int) (t : Tok) (v : Value) : ∀ es : List DictEntry, es.any (·.refKey) = false → (putL name hsh (.str name t) v es).any (·.refKey) = false
  | [], _ => rfl
  | e :: r, h => by
    simp only [List.any_cons, Bool.or_eq_false_iff] at h
    unfold putL
    split
    · simp only [List.any_cons, Bool.or_eq_false_iff]; exact ⟨h.1, h.2⟩
    · simp only [List.any_cons, Bool.or_eq_false_iff]; exact ⟨h.1, ref_putL name hsh t v r h.2⟩
theorem Flds.get {f : Mp} {es : List DictEntry} {name : Str} (h : es.any (·.refKey) = false) (e : (es.find? (·.key.isStr name)).map (·.val) = f name) : getL name es = some (f name) := by
  unfold getL
  cases q : es.find? (·.key.isStr name) with
  | none => rw [q] at e; simp [h, ← e]
  | some x => rw [q] at e; simp [← e]
theorem Flds.new : Flds emp 0 (dictOf [] 0) := ⟨[], 0, rfl, Nat.le_refl _, rfl, fun _ => rfl⟩
theorem Flds.put {f : Mp} {k : Nat} {es : List DictEntry} {n n' : Nat} {name : Str} {hsh : Int} {t : Tok} {v : Value} (hl : es.length ≤ k) (hr : es.any (·.refKey) = false) (hf : ∀ x, (es.find? (·.key.isStr x)).map (·.val) = f x) :
    Flds (upd f name v) (k + 1) (dictOf (putL name hsh (.str name t) v es) n') :=
  ⟨_, _, rfl, Nat.le_trans (putL_len ..) (Nat.succ_le_succ hl), ref_putL _ _ _ _ _ hr, fun x => by rw [find_putL, hf]; rfl⟩
theorem Flds.same {f g : Mp} {k : Nat} {o : Obj} (h : Flds f k o) (e : ∀ x, f x = g x) : Flds g k o := by
  obtain ⟨es, n, a, b, c, d⟩ := h
  exact ⟨es, n, a, b, c, fun x => (d x).trans (e x)⟩

structure Plain (K : Frag) (Ca : Addr) : Prop where
  hg : findIn K (.ref Ca) "__getattribute__" = some (some (.builtin "object.__getattribute__"))
  hg2 : findIn K (.ref Ca) "__getattr__" = some none
  hh : hasDictIn K Ca = true
  hs : findIn K (.ref Ca) "__setattr__" = some (some (.builtin "object.__setattr__"))
  hp : plainOver K Ca = true
theorem Plain.get {K : Frag} {Ca : Addr} (P : Plain K Ca) (name : Str) : plainGet K Ca name = true := by
  unfold plainGet; rw [P.hg, P.hg2]; rfl

theorem W_getAttr {x Ca dx : Addr} {o : Obj} {f : Mp} {k : Nat} {name : Str} {v : Value} {expr : Bool} {Q : Value → Mp → HL → Prop} (h : Q v m H) (O : Ok C c n := by assumption) (hm : (x, instObj Ca dx) ∈ H := by k_extra "mm") (P : Plain (KK C) Ca := by k_extra "pl") (hm2 : (dx, o) ∈ H := by k_extra "mm") (hf : Flds f k o := by assumption) (hv : f name = some v := by k_extra "lk") (ha : findIn (Mine.kk C.w.params) (.ref Ca) name = some none := by with_unfolding_all k_is) (hi : handedIn v = true := by with_unfolding_all exact rfl) : W C c m H (getAttr (.ref x) name expr) Q := fun _ _ tk T F N => by
  obtain ⟨es, n, rfl, _, hr, hf⟩ := hf
  exact get_own F (O.K T) (InstAt.of_news N.N hm hm2) (P.get name) P.hh ha rfl ((Flds.get hr (hf name)).trans (by rw [hv])) hi (Po.in (tk := tk + 1) T F N h)
theorem W_method {x Ca dx fa : Addr} {o : Obj} {f : Mp} {k : Nat} {name : Str} {pl : Sem Bool} {Q : Value × List Value → Mp → HL → Prop} (h : Q (.ref fa, [.ref x]) m H) (O : Ok C c n := by assumption) (hm : (x, instObj Ca dx) ∈ H := by k_extra "mm") (P : Plain (KK C) Ca := by k_extra "pl") (hm2 : (dx, o) ∈ H := by k_extra "mm") (hf : Flds f k o := by assumption) (hv : f name = none := by k_extra "lk") (ha : findIn (Mine.kk C.w.params) (.ref Ca) name = some (some (.ref fa)) := by with_unfolding_all k_is) (ht : isFn (Mine.kk C.w.params) (.ref fa) = true := by with_unfolding_all k_is) : W C c m H (getMethod (.ref x) name pl) Q := fun _ _ _ T F N => by
  obtain ⟨es, n, rfl, _, hr, hf⟩ := hf
  exact method_inst F (O.K T) (InstAt.of_news N.N hm hm2) (P.get name) ha ht ((Flds.get hr (hf name)).trans (by rw [hv])) (Po.in T F N h)
theorem W_setAttr {x Ca dx : Addr} {o : Obj} {f : Mp} {k : Nat} {name : Str} {v : Value} {g : Obj → HL} {Q : Unit → Mp → HL → Prop} (O : Ok C c n) (P : Plain (KK C) Ca) (hm : (x, instObj Ca dx) ∈ H) (U : ∀ o', At dx o o' H (g o')) (hf : Flds f k o)
    (ha : takerIn (Mine.kk C.w.params) Ca name = some none) (hk : k + 1 ≤ 1000) (h : ∀ o', Flds (upd f name v) (k + 1) o' → Q () m (g o')) : W C c m H (setAttr (.ref x) name v) Q := fun g hh tk T F N => by
  obtain ⟨es, n, rfl, hl, hr, hf⟩ := hf
  have hdm := (U emptyDict).mem
  have fl := Flds.put (f := f) (k := k) (n := n) (n' := putN name es n) (name := name) (hsh := PyData.keyHash C.w.params name) (t := tk + 1) (v := v) hl hr hf
  have U' := U (dictOf (putL name (PyData.keyHash C.w.params name) (.str name (tk + 1)) v es) (putN name es n))
  obtain ⟨F', N'⟩ : True ∧ True := ⟨trivial, trivial⟩
  have nd := N.nd
  obtain ⟨l, r, e1, e2⟩ := U'.split
  have nd' := nd
  rw [e1] at nd'
  simp only [List.map_append, List.map_cons] at nd'
  have h1 : ∀ p ∈ l, p.1 ≠ dx := fun p hp => (List.nodup_append.mp nd').2.2 p.1 (List.mem_map_of_mem hp) dx (.head _)
  have h2 : ∀ p ∈ r, p.1 ≠ dx := fun p hp q => (List.nodup_cons.mp (List.nodup_append.mp nd').2.1).1 (q ▸ List.mem_map_of_mem hp)
  have toUpd : ∀ l : HL, (∀ p ∈ l, p.1 ≠ dx) → Upd dx (dictOf es n) (dictOf (putL name (PyData.keyHash C.w.params name) (.str name (tk + 1)) v es) (putN name es n)) (l ++ (dx, dictOf es n) :: r) (l ++ (dx, dictOf (putL name (PyData.keyHash C.w.params name) (.str name (tk + 1)) v es) (putN name es n)) :: r) := by
    intro l
    induction l with
    | nil => intro _; exact Upd.head h2
    | cons p l ih => intro hl; exact Upd.tail (hl p (.head _)) (ih fun q hq => hl q (.tail _ hq))
  refine set_dict (es' := putL name (PyData.keyHash C.w.params name) (.str name (tk + 1)) v es) (n' := putN name es n) F (O.K T) N.N (InstAt.of_news N.N hm hdm) rfl P.hs P.hp ha P.hh (by rw [Flds.get hr (hf name)]; rfl) rfl (e1 ▸ e2 ▸ toUpd l h1) (Nat.le_trans (putL_len ..) (by omega)) fun h' F' N' => ?_
  exact Po.in (tk := tk + 2) T F' ⟨N', by rw [U'.keys]; exact nd⟩ (h _ fl)

-- tuples
theorem W_addTup0 {t b : Addr} {ws : List Value} {Q : Value → Mp → HL → Prop} (ht : (t, tupOf []) ∈ H) (hb : (b, tupOf ws) ∈ H) (h : Q (.ref b) m H) (hz : ws.length ≤ sizeLine := by exact Nat.le_of_ble_eq_true rfl) : W C c m H (binaryOp .Add (.ref t) (.ref b)) Q := fun _ _ _ T F N =>
  add_tuples (vs := []) (ws := ws) F N.N ⟨_, N.get ht, rfl, 0, rfl⟩ ⟨_, N.get hb, rfl, 0, rfl⟩ (fun _ => Po.in T F N h) (fun q => absurd rfl q) (fun q => absurd rfl q) (by simpa using hz)
theorem W_addTup {t b : Addr} {vs ws : List Value} {Q : Value → Mp → HL → Prop} (ht : (t, tupOf vs) ∈ H) (hb : (b, tupOf ws) ∈ H) (hv : vs ≠ []) (hw : ws ≠ []) (h : ∀ a, Q (.ref a) m ((a, tupOf (vs ++ ws)) :: H)) (hz : vs.length + ws.length ≤ sizeLine := by exact Nat.le_of_ble_eq_true rfl) :
    W C c m H (binaryOp .Add (.ref t) (.ref b)) Q := fun g hh tk T F N =>
  add_tuples (vs := vs) (ws := ws) F N.N ⟨_, N.get ht, rfl, 0, rfl⟩ ⟨_, N.get hb, rfl, 0, rfl⟩ (fun q => absurd q hv) (fun _ q => absurd q hw) (fun _ _ h' F' N' => by
    have hn := List.nodup_cons.mpr (⟨fun q => by
      obtain ⟨p, hp, e⟩ := List.mem_map.mp q
      exact Nat.ne_of_lt (Heap.lt_size (N.N p hp).1) e, N.nd⟩ : (hh.objs.size) ∉ H.map (·.1) ∧ (H.map (·.1)).Nodup)
    exact Po.in T F' ⟨N', hn⟩ (h _)) hz
theorem Led.cons' {g h h' : Heap} {H : HL} {D : Addr} {o : Obj} (N : Led g c h H) (N' : News g c.L h' ((D, o) :: H)) (hl : ∀ q ∈ H, q.1 < D) : Led g c h' ((D, o) :: H) :=
  ⟨N', List.nodup_cons.mpr ⟨fun q => by
    obtain ⟨p, hp, e⟩ := List.mem_map.mp q
    exact Nat.ne_of_lt (hl p hp) e, N.nd⟩⟩
theorem W_eqStr {a b : Str} {t u : Tok} {Q : Value → Mp → HL → Prop} (h : Q (.bool (a == b)) m H) : W C c m H (compareOp .Eq (.str a t) (.str b u)) Q := fun _ _ _ T F N => PyProof.Rows.eq_str (Po.in T F N h)

-- lists
theorem W_addL {l b : Addr} {vs ws : List Value} {e e' : Nat} {Q : Value → Mp → HL → Prop} (hl : (l, lstOf vs e) ∈ H) (hb : (b, lstOf ws e') ∈ H) (h : ∀ a, Q (.ref a) m ((a, lstOf (vs ++ ws) 0) :: H)) (hz : vs.length + ws.length ≤ sizeLine) :
    W C c m H (binaryOp .Add (.ref l) (.ref b)) Q := fun g hh tk T F N =>
  add_lists F N.N ⟨_, N.get hl, rfl, e, rfl⟩ ⟨_, N.get hb, rfl, e', rfl⟩ (fun h' F' N' => Po.in T F' (N.cons' N' fun q hq => Heap.lt_size (N.N q hq).1) (h _)) hz
theorem W_listOf {l : Addr} {vs : List Value} {e : Nat} {Q : Value → Mp → HL → Prop} (hl : (l, lstOf vs e) ∈ H) (h : ∀ a e', Q (.ref a) m ((a, lstOf vs e') :: H)) (hz : vs.length ≤ sizeLine) : W C c m H (call (.type "list") [.ref l]) Q := fun g hh tk T F N =>
  kup_listOf F N.N hl (by simp) (fun D e' h' F' N' l1 => Po.in T F' (N.cons' N' l1) (h D e')) (by simpa using hz)
theorem rep_foldl {v : Value} : ∀ (k : Nat) (acc : Array Value), List.foldl (fun x1 x2 => x1 ++ x2) acc (List.replicate k #[v]) = acc ++ (List.replicate k v).toArray
  | 0, acc => by simp
  | k + 1, acc => by
    rw [List.replicate_succ, List.foldl_cons, rep_foldl k, List.replicate_succ]
    apply Array.toList_inj.mp
    simp
theorem W_mul1 {l : Addr} {v : Value} {e : Nat} {x : Int} {u : Tok} {Q : Value → Mp → HL → Prop} (hl : (l, lstOf [v] e) ∈ H) (h0 : 0 ≤ x) (h1 : x ≤ 2 ^ 24) (h : ∀ a, Q (.ref a) m ((a, lstOf (List.replicate x.toNat v) 0) :: H)) :
    W C c m H (binaryOp .Mult (.ref l) (.int x u)) Q := fun g hh tk T F N => by
  refine mul_list F N.N (N.get hl) (by omega) (by omega) (by simp; omega) fun h' F' N' => ?_
  have e : List.foldl (fun x1 x2 => x1 ++ x2) #[] (List.replicate (if ([v].toArray).isEmpty = true then 0 else x.toNat) [v].toArray) = (List.replicate x.toNat v).toArray := by
    rw [if_neg (by simp)]
    have := rep_foldl (v := v) x.toNat #[]
    simpa using this
  rw [e] at N'
  exact Po.in T F' (N.cons' N' fun q hq => Heap.lt_size (N.N q hq).1) (h _)
theorem W_max2 (O : Ok C c n) (hh : c.A.handled = none) {a b : Int} {t u : Tok} {Q : Value → Mp → HL → Prop} (h : ∀ t, Q (.int (max a b) t) m H) : W C c m H (call (.builtin "max") [.int a t, .int b u]) Q := fun _ _ _ T F N =>
  max_two_N hh F N.N fun h' tk F' N' => by
    have := h (if b > a then u else t)
    rw [show max a b = if b > a then b else a by split <;> omega] at this
    exact Po.in T F' ⟨N', N.nd⟩ this
theorem W_is_none_none {Q : Value → Mp → HL → Prop} (h : Q (.bool true) m H) : W C c m H (compareOp .Is .none .none) Q := fun _ _ _ T F N => is_none_none (Po.in T F N h)
theorem W_isnot_none_none {Q : Value → Mp → HL → Prop} (h : Q (.bool false) m H) : W C c m H (compareOp .IsNot .none .none) Q := fun _ _ _ T F N => isnot_none_none (Po.in T F N h)
theorem W_eachNil {Q : Unit → Mp → HL → Prop} (h : Q () m H) : W C c m H (assignInOrder ((assignEach [] env).map (·.2)) []) Q := W_inOrder_nil h
theorem W_eachName {x : Str} {p : Pos} {rest : List Expr} {v : Value} {vs : List Value} {Q : Unit → Mp → HL → Prop} (h : W C c m H (storeName env x v) fun _ m1 H1 => W C c m1 H1 (assignInOrder ((assignEach rest env).map (·.2)) vs) Q) :
    W C c m H (assignInOrder ((assignEach (.Name x p :: rest) env).map (·.2)) (v :: vs)) Q := by
  show W C c m H (assignInOrder (assign (.Name x p) env :: (assignEach rest env).map (·.2)) (v :: vs)) Q
  exact W_inOrder_cons (W_assignName h)
theorem W_callB0 {id : String} {pos : Pos} {e : Expr} {rest : List Expr} {Q : Value → Mp → HL → Prop} (h : let Qk : List Value → Mp → HL → Prop := fun vs m1 H1 => W C c m1 H1 (call (.builtin id) vs) Q; W C c m H (spliced (backTo pos (starEach (e :: rest) env))) Qk) (he : starEach (e :: rest) env = (false, eval e env) :: starEach rest env := by with_unfolding_all exact rfl) (hp : (backTo pos (starEach rest env)).any (·.1) = false := by with_unfolding_all exact rfl) :
    W C c m H (callWith pos (.builtin id) [] (backTo pos (starEach (e :: rest) env)) []) Q := W_callB (first := []) h he hp
theorem W_last' {pos : Pos} {a : Value} {op : CmpOp} {r : Sem Value} {Q : Bool → Mp → HL → Prop}
    (h : let Qk : Value → Mp → HL → Prop := fun b m1 H1 => W C c m1 H1 (compareOp op a b) fun v m2 H2 => W C c m2 H2 (truthy v) Q; W C c m H r Qk) : W C c m H (testChain pos a [op] (r :: evalEach [] env)) Q := W_last h
theorem W_link' {pos : Pos} {a : Value} {op op' : CmpOp} {ops : List CmpOp} {r : Sem Value} {e' : Expr} {es : List Expr} {Q : Bool → Mp → HL → Prop}
    (h : let Qk : Value → Mp → HL → Prop := fun b m1 H1 => W C c m1 H1 (compareOp op a b) fun v m2 H2 => W C c m2 H2 (truthy v) fun t m3 H3 => (t = true → W C c m3 H3 (testChain pos b (op' :: ops) (eval e' env :: evalEach es env)) Q) ∧ (t = false → Q false m3 H3); W C c m H r Qk) :
    W C c m H (testChain pos a (op :: op' :: ops) (r :: evalEach (e' :: es) env)) Q := W_link h
-- equality at a state
noncomputable def EqL (C : Cst) (c : Fc) (H : HL) (k : Nat) (a b : Value) (r : Bool) : Prop := ∀ (A : Around) (g h : Heap) (tk : Nat), A.handled = none → A.units + k < cLine → Led g c h H → SeqAt.EqAt A (C.sh h tk) a b r
theorem EqL.int {k : Nat} {a b : Int} {t u : Tok} : EqL C c H k (.int a t) (.int b u) (a == b) := fun _ _ _ _ _ _ _ => SeqAt.EqAt.int_int a t b u
end
end
section
open PySem PySem.W PySem.Calls PySem.Spec PyProof.Rows PyProof.Rows.LCg
section
variable {C : Cst} {c : Fc} {α β : Type} {m : Mp} {H : HL} {env : Env} {n : Nat}

theorem W_part0 {Q : Value → Mp → HL → Prop} (h : Q .none m H) : W C c m H (evalPart none env) Q := fun _ _ _ T F N => wpAny_evalPart_none (Po.in T F N h)
theorem W_part1 {e : Expr} {Q : Value → Mp → HL → Prop} (h : W C c m H (eval e env) Q) : W C c m H (evalPart (some e) env) Q := fun _ _ _ T F N => wpAny_evalPart_some (h _ _ _ T F N)
noncomputable def SliceL (vl vu o : Value) (Q : Value → Mp → HL → Prop) (m : Mp) (H : HL) : Prop :=
  ∃ l vs e lo hi, o = .ref l ∧ (l, lstOf vs e) ∈ H ∧ IsPart vl lo ∧ IsPart vu hi ∧ vs.length ≤ sizeLine ∧ ∀ D, Q (.ref D) m ((D, lstOf (slicePick vs.toArray lo hi none).toList 0) :: H)
noncomputable def SliceT (vl vu o : Value) (Q : Value → Mp → HL → Prop) (m : Mp) (H : HL) : Prop :=
  ∃ t vs a u, o = .ref t ∧ vl = .int ((a : Nat) : Int) u ∧ vu = .none ∧ (t, tupOf vs) ∈ H ∧ 1 ≤ a ∧ a ≤ vs.length ∧ vs.length < sizeLine ∧ ∀ D, Q (.ref D) m ((D, tupOf (vs.drop a)) :: H)
noncomputable def SliceX (vl vu o : Value) (Q : Value → Mp → HL → Prop) (m : Mp) (H : HL) : Prop := SliceL vl vu o Q m H ∨ SliceT vl vu o Q m H
theorem SliceX.list {vl vu : Value} {l : Addr} {vs : List Value} {e : Nat} {lo hi : Option Int} {Q : Value → Mp → HL → Prop} (hm : (l, lstOf vs e) ∈ H) (h1 : IsPart vl lo) (h2 : IsPart vu hi) (hz : vs.length ≤ sizeLine)
    (h : ∀ D, Q (.ref D) m ((D, lstOf (slicePick vs.toArray lo hi none).toList 0) :: H)) : SliceX vl vu (.ref l) Q m H := .inl ⟨l, vs, e, lo, hi, rfl, hm, h1, h2, hz, h⟩
theorem SliceX.tup {t : Addr} {vs ws : List Value} (a : Nat) {u : Tok} {Q : Value → Mp → HL → Prop} (hm : (t, tupOf vs) ∈ H) (h1 : 1 ≤ a) (h2 : a ≤ vs.length) (hz : vs.length < sizeLine) (e : vs.drop a = ws)
    (h : ∀ D, Q (.ref D) m ((D, tupOf ws) :: H)) : SliceX (.int (a : Int) u) .none (.ref t) Q m H := .inr ⟨t, vs, a, u, rfl, rfl, rfl, hm, h1, h2, hz, e ▸ h⟩
theorem W_slice {value : Expr} {lower upper : Option Expr} {p pos : Pos} {Q : Value → Mp → HL → Prop} (h : let Qk : Value → Mp → HL → Prop := fun o m1 H1 => W C c m1 H1 (evalPart lower env) fun vl m2 H2 => W C c m2 H2 (evalPart upper env) fun vu m3 H3 => SliceX vl vu o Q m3 H3; W C c m H (eval value env) Qk) (hs : ∀ l z, subscripted (.Slice lower upper none p) false (.ref l) (.ref z) = operate [.ref z, .ref l] (getItem (.ref l) (.ref z)) := by with_unfolding_all exact fun _ _ => rfl) :
    W C c m H (eval (.Subscript value (.Slice lower upper none p) pos) env) Q := fun _ _ _ T F N => by
  refine Subscript_ (h.run T F N fun o _ h1 tk1 m1 H1 T1 F1 N1 q => ?_)
  refine wpAny_Slice (q.run T1 F1 N1 fun vl _ h2 tk2 m2 H2 T2 F2 N2 q => q.run T2 F2 N2 fun vu _ h3 tk3 m3 H3 T3 F3 N3 q => wpAny_evalPart_none ?_)
  rcases q with q | q
  · obtain ⟨l, vs, e, lo, hi, rfl, hm, pl, pu, hz, h⟩ := q
    refine kba_turn (value' := .Name "_" ⟨0, 0, 0, 0⟩) (fun _ => rfl) ?_
    refine kmk_slice (s := C.sh h3 tk3) F3 N3.N ⟨_, N3.get hm, rfl, e, rfl⟩ pl pu (fun D h' F' N' l1 => ?_) (hs _ _) (fun _ => rfl) (by simpa using hz)
    have N4 := N3.cons' N' l1
    exact Po.in T3 F' (by simpa using N4) (h D)
  · obtain ⟨t, vs, a, u, rfl, rfl, rfl, hm, h1, hl, hz, h⟩ := q
    refine kba_turn (value' := .Name "_" ⟨0, 0, 0, 0⟩) (fun _ => rfl) ?_
    refine slice_tuple_from (a := a) (s := C.sh h3 tk3) F3 N3.N ⟨_, N3.get hm, rfl, 0, rfl⟩ h1 (by simpa using hl) (fun h' F' N' => ?_) (hs _ _) (fun _ => rfl) (by simp; omega)
    have N4 := N3.cons' N' fun q hq => Nat.lt_succ_of_lt (Heap.lt_size (N3.N q hq).1)
    exact Po.in T3 F' (by simpa using N4) (h _)

-- defs whose names are cells
theorem cellsFrom_keys : ∀ (names : List (Str × NameKind)) (n : Nat) (acc : List (Str × Addr)), (∀ p ∈ acc, (p.2 : Nat) < n) → (acc.map (·.2)).Nodup →
    ((cellsFrom n names acc).map (·.2)).Nodup ∧ ∀ p ∈ cellsFrom n names acc, p ∈ acc ∨ n ≤ (p.2 : Nat)
  | [], n, acc, _, h2 => ⟨h2, fun p hp => .inl hp⟩
  | (x, k) :: r, n, acc, h1, h2 => by
    unfold cellsFrom
    split
    · obtain ⟨a, b⟩ := cellsFrom_keys r (n + 1) ((x, n) :: acc) (fun p hp => by
        rcases List.mem_cons.mp hp with rfl | hp
        · exact Nat.lt_succ_self _
        · exact Nat.lt_succ_of_lt (h1 p hp)) (List.nodup_cons.mpr ⟨fun q => by
          obtain ⟨p, hp, e⟩ := List.mem_map.mp q
          exact absurd e (Nat.ne_of_lt (h1 p hp)), h2⟩)
      refine ⟨a, fun p hp => ?_⟩
      rcases b p hp with q | q
      · rcases List.mem_cons.mp q with rfl | q
        · exact .inr (Nat.le_refl _)
        · exact .inl q
      · exact .inr (Nat.le_of_succ_le q)
    · exact cellsFrom_keys r n acc h1 h2
theorem CellsAre.keys {cm : Mp} : ∀ {cl : List (Str × Addr)} {cells : HL}, CellsAre cm cl cells → cells.map (·.1) = cl.map (·.2)
  | _, _, .nil => rfl
  | _, _, .cons h r => by rw [List.map_cons, List.map_cons, CellsAre.keys r]

theorem W_defCz {f : Addr} {name qual : Str} {params : Arguments} {body : List Stmt} {scope : Scope} {dV kV doc pm cdv ct oc : Value} {an od : Option Addr} {osl : Array (Option Value)} {args : List Value} {binds : List (Str × Value)} (mL mC : Mp) {Q : Value → Mp → HL → Prop}
    (O : Ok C c (n + 1)) (ho : List.lookup f (Mine.kk C.w.params) = some ⟨oc, od, .func (fnOf name qual params body scope dV kV doc pm an cdv ct), osl⟩) (hcd : codeIn (Mine.kk C.w.params) cdv qual = true)
    (hb : bindArgs (fnOf name qual params body scope dV kV doc pm an cdv ct) ⟨args, []⟩ = pure binds) (hkind : (binds.all fun y => scope.names.lookup y.1 == some .local || scope.names.lookup y.1 == some .cell) = true)
    (hnd : ((cellsFrom 0 scope.names []).map (·.1)).Nodup)
    (eL : bindL (fun x => scope.names.lookup x) binds emp = mL) (eC : bindC (fun x => scope.names.lookup x) binds emp = mC)
    (h : ∀ outer A₀ base h₀ L cells, Ok C ⟨c.dp + 1, c.un + 3, qual, scope, f, cdv, cellsFrom (L + 1) scope.names [], outer, A₀, base, h₀, L⟩ n → CellsAre mC (cellsFrom (L + 1) scope.names []) cells →
      W C ⟨c.dp + 1, c.un + 3, qual, scope, f, cdv, cellsFrom (L + 1) scope.names [], outer, A₀, base, h₀, L⟩ mL (cells ++ H) (execs body (Fc.env ⟨c.dp + 1, c.un + 3, qual, scope, f, cdv, cellsFrom (L + 1) scope.names [], outer, A₀, base, h₀, L⟩)) (SP (fun _ H' => Dr (Q .none m) H') (fun v _ H' => Dr (Q v m) H')))
    (hco : scope.isCoroutine = false) (hgen : scope.isGenerator = false) (hk : scope.kind = .function) :
    W C c m H (call (.ref f) args) Q := fun g hh tk T F N => by
  obtain ⟨BG, st, DG, FG⟩ := enterG O T F N (A' := c.A) rfl
  have X := (O.K T).keeps F.keep
  have hlim := (O.T T).nolimit.keeps F.keep
  refine wpAny_call (codeAny_call_function (fd := fnOf name qual params body scope dV kV doc pm an cdv ct) (by have := O.hd; exact Nat.lt_of_le_of_lt (Nat.le_add_right _ _) this) (X _ _ ho) rfl hco hgen rfl (codeRec_of X hcd) ((BindsTo.of_eq hb) _ _ _ _ ?_))
  refine wpAny_newFunctionEnv_cells hk (kindsX hkind _) fun env' he s' x => ?_
  subst he
  refine ⟨hlim.keeps x.toInCall.keep, codeAny_func ?_⟩
  obtain ⟨h₁, tk, rfl, _⟩ := x.done
  have hk₁ := x.toInCall.keep
  have hLs : (C.sh hh tk).heap.objs.size = hh.objs.size := rfl
  obtain ⟨cells, NC, Y⟩ := Cl.news (h₀ := hh) (Nat.le_refl _) fun n c hm => ⟨x.cell n c (lookup_of_mem_nodup (cellsFrom_names scope.names 0 (hh.objs.size + 1) [] [] rfl ▸ hnd) hm), x.above n c hm⟩
  have eL' : bindL (envOfC qual scope hh.objs.size f cdv).kindOf binds (fun _ => none) = mL := eL
  have eC' : bindC (envOfC qual scope hh.objs.size f cdv).kindOf binds (fun _ => none) = mC := eC
  have hns : h₁.Ns hh.objs.size mL := eL' ▸ x.toInCall.ns
  replace Y : CellsAre mC (cellsFrom (hh.objs.size + 1) scope.names []) cells := eC' ▸ Y
  have O' : Ok C ⟨c.dp + 1, c.un + 3, qual, scope, f, cdv, cellsFrom (hh.objs.size + 1) scope.names [], c.env :: c.outer, c.A, c.base, ghostFor hh H, hh.objs.size⟩ n := ⟨BG, DG, O.XB, O.TB, hk, by have := O.hd; simp only; omega, by have := O.hu; simp only; omega⟩
  have nd : ((cells ++ H).map (·.1)).Nodup := by
    rw [List.map_append, CellsAre.keys Y]
    obtain ⟨a, b⟩ := cellsFrom_keys scope.names (hh.objs.size + 1) [] (fun _ h => nomatch h) List.nodup_nil
    refine List.nodup_append.mpr ⟨a, N.nd, fun x hx y hy q => ?_⟩
    obtain ⟨p, hp, e1⟩ := List.mem_map.mp hx
    obtain ⟨r, hr, e2⟩ := List.mem_map.mp hy
    rcases b p hp with z | z
    · cases z
    · have l1 : (r.1 : Nat) < hh.objs.size := Heap.lt_size (N.N r hr).1
      have this : r.1 = p.2 := by rw [e1, e2, q]
      rw [this] at l1
      exact absurd l1 (Nat.not_lt.mpr (Nat.le_of_succ_le z))
  refine (h _ _ _ _ _ _ O' Y).run (tk := tk) KtsTurn.refl ⟨hns, fun b o e => hk₁ b o (of_hideAll _ e), Nat.le_of_eq (hideAll_size _ _)⟩ ⟨fun p hp => ?_, nd⟩ fun fl g' h' tk' m' H' T1 F1 N1 q => ?_
  · rcases List.mem_append.mp hp with hp | hp
    · refine ⟨(NC p hp).1, (NC p hp).2.1, ?_⟩
      cases q : (ghostFor hh H).get? p.1 with
      | none => rfl
      | some o => have := of_hideAll _ q; rw [(NC p hp).2.2] at this; cases this
    · exact ⟨hk₁ _ _ (N.N p hp).1, Nat.ne_of_lt (Heap.lt_size (N.N p hp).1), hideAll_none _ (List.mem_map_of_mem hp)⟩
  · obtain ⟨g2, T2, F2, N2⟩ := leaveG O T F N T1 F1 N1.N N1.nd
    cases fl with
    | next => obtain ⟨H2, l2, q⟩ := q; exact Po.in T2 F2 (N2.le l2) q
    | ret v => obtain ⟨H2, l2, q⟩ := q; exact Po.in T2 F2 (N2.le l2) q
    | brk => exact q.elim
    | cont => exact q.elim
theorem W_defC {f : Addr} {name qual : Str} {params : Arguments} {body : List Stmt} {scope : Scope} {dV kV doc pm cdv ct oc : Value} {an od : Option Addr} {osl : Array (Option Value)} {args : List Value} {binds : List (Str × Value)} (mL mC : Mp) {Q : Value → Mp → HL → Prop}
    (O : Ok C c (n + 1)) (ho : List.lookup f (Mine.kk C.w.params) = some ⟨oc, od, .func (fnOf name qual params body scope dV kV doc pm an cdv ct), osl⟩) (hcd : codeIn (Mine.kk C.w.params) cdv qual = true)
    (hb : bindArgs (fnOf name qual params body scope dV kV doc pm an cdv ct) ⟨args, []⟩ = pure binds) (hkind : (binds.all fun y => scope.names.lookup y.1 == some .local || scope.names.lookup y.1 == some .cell) = true)
    (hnd : ((cellsFrom 0 scope.names []).map (·.1)).Nodup)
    (eL : bindL (fun x => scope.names.lookup x) binds emp = mL) (eC : bindC (fun x => scope.names.lookup x) binds emp = mC)
    (h : ∀ dp un outer A₀ base h₀ L cells, Ok C ⟨dp, un, qual, scope, f, cdv, cellsFrom (L + 1) scope.names [], outer, A₀, base, h₀, L⟩ n → CellsAre mC (cellsFrom (L + 1) scope.names []) cells →
      W C ⟨dp, un, qual, scope, f, cdv, cellsFrom (L + 1) scope.names [], outer, A₀, base, h₀, L⟩ mL (cells ++ H) (execs body (Fc.env ⟨dp, un, qual, scope, f, cdv, cellsFrom (L + 1) scope.names [], outer, A₀, base, h₀, L⟩)) (SP (fun _ H' => Dr (Q .none m) H') (fun v _ H' => Dr (Q v m) H')))
    (hco : scope.isCoroutine = false) (hgen : scope.isGenerator = false) (hk : scope.kind = .function) :
    W C c m H (call (.ref f) args) Q :=
  W_defCz mL mC O ho hcd hb hkind hnd eL eC (fun outer A₀ base h₀ L cells O1 Y => h _ _ outer A₀ base h₀ L cells O1 Y) hco hgen hk
end
end
section
open PySem PySem.W PySem.Calls PySem.Spec PyProof.Rows PyProof.Rows.LCg
noncomputable def TrD (h base : Heap) (e : Addr) (cls : Value) (dx : Addr) (fl : Value) : Prop :=
  ∃ oe vs T oT ts, h.get? e = some oe ∧ (oe.cls = cls ∧ oe.dict = some dx) ∧ oe.data = .fields vs ∧ vs[1]? = some (.ref T) ∧ base.get? T = none ∧ T ≠ e ∧ h.get? T = some oT ∧ oT.data = .fields ts ∧ ts[3]? = some fl
noncomputable def FlyD (B : Heap) (l : List Env) (e : Addr) (cls : Value) (dx : Addr) (fl : Value) (h : Heap) : Prop := B.StaysIn h ∧ B.get? e = none ∧ h.FunFrames B l ∧ TrD h B e cls dx fl
theorem dict_mapFields (f : Array Value → Array Value) (o : Obj) : (Obj.mapFields f o).dict = o.dict := by
  obtain ⟨c, d, dt, sl⟩ := o; cases dt <;> rfl
section
variable {M : Model} {A : Around} {E : Value → Shared → Prop} {s : Shared}
theorem entryD {B : Heap} {env : Env} {outer : List Env} {L e dx : Addr} {oe : Obj} {vs : Array Value} {head : Value} {hadNext : Bool} {Q : Unit → Shared → Prop}
    (hfr : A.frames = some (env :: outer)) (hl : s.heap.FunFrames B (env :: outer)) (hf : env.frame = some L)
    (he : s.heap.get? e = some oe) (hkb : B.StaysIn s.heap) (hen : B.get? e = none) (hd : oe.data = .fields vs) (hsz : 1 < vs.size) (hdx : oe.dict = some dx)
    (h : ∀ h', FlyD B (env :: outer) e oe.cls dx (rawInt L) h' → s.heap.UpToSlots h' → Q () { s with heap := h' }) :
    wpAny M A (do let a ← frameOf env; let pl ← entryPlaceOf L hadNext; let b ← EntryCells.newEntry head a .none (rawInt L) .none pl; setField (.ref e) 1 b) Q E s := by
  have hene : e ∉ (env :: outer).filterMap (·.frame) := fun hm => by
    obtain ⟨_, o, ho, hnf⟩ := hl.mem hm
    rw [he] at ho; injection ho with ho; subst ho; exact hnf vs hd
  refine wpAny_bind (wpAny_frameOf_fun hfr hl hf fun h₁ hs₁ => ?_)
  refine wpAny_bind (wpAny_entryPlaceOf fun pl hpl => ?_)
  unfold EntryCells.newEntry newFields
  refine wpAny_bind (wpAny_newObj_type ?_ (hpl.sizeOk5 _ _ _ _ _))
  have he₁ : h₁.get? e = some oe := (hs₁.2.1 e hene).trans he
  have kb₁ : B.StaysIn h₁ := fun b o hbo => (hs₁.2.1 b fun hm => by rw [(hl.mem hm).1] at hbo; cases hbo).trans (hkb b o hbo)
  generalize hot : ({ cls := .type "traceback", dict := none, data := .fields ([head, .ref L, .none, rawInt L, .none] ++ (if pl.isEmpty then List.replicate 6 Value.none else pl)).toArray } : Obj) = ot
  have he₂ := Heap.get?_push_of_some (h := h₁) ot he₁
  refine wpAny_setField he₂ hd hsz ?_
  have hTe : h₁.objs.size ≠ e := Nat.ne_of_gt (Heap.lt_size he₁)
  have hd₃ := Obj.data_mapFields hd (·.setIfInBounds 1 (Value.ref h₁.objs.size))
  have he₃ := Heap.get?_update_self (Obj.mapFields (·.setIfInBounds 1 (Value.ref h₁.objs.size))) he₂ (Obj.isFreed_of_fields hd₃)
  have hT₃ := (Heap.get?_update_other (h₁.push ot) (Obj.mapFields (·.setIfInBounds 1 (Value.ref h₁.objs.size))) (Ne.symm hTe)).trans (Heap.get?_push_size h₁ (by rw [← hot]; rfl))
  have keep : ∀ b o, b ≠ e → h₁.get? b = some o → ((h₁.push ot).update e (Obj.mapFields (·.setIfInBounds 1 (Value.ref h₁.objs.size)))).get? b = some o := fun b o hbe hb => by
    rw [Heap.get?_update_other _ _ (Ne.symm hbe)]
    exact Heap.get?_push_of_some _ hb
  have noRecord : ∀ b o, s.heap.get? b = some o → (∀ vs, o.data ≠ .fields vs) → b ≠ e := fun b o hb hnf q => by
    rw [q, he] at hb; injection hb with hb; subst hb; exact hnf vs hd
  refine h _ ⟨fun b o hbo => keep b o (fun q => by rw [q, hen] at hbo; cases hbo) (kb₁ b o hbo), hen, hl.of_keeps fun b o hb hnf => ?_, ?_⟩ fun b o hb hnf => ?_
  · obtain ⟨sl, hs⟩ := hs₁.2.2 b o hb
    exact ⟨_, keep b _ (noRecord b o hb hnf) hs, rfl⟩
  · exact ⟨_, _, h₁.objs.size, _, _, he₃, ⟨Obj.cls_mapFields _ _, (dict_mapFields _ _).trans hdx⟩, hd₃, by simp [hsz], kb₁.fresh, hTe, hT₃, by rw [← hot], by first | (simp; done) | (rcases hpl with rfl | ⟨_, _, _, _, _, _, _, rfl⟩ <;> simp)⟩
  · obtain ⟨sl, hs⟩ := hs₁.2.2 b o hb
    exact ⟨sl, keep b _ (noRecord b o hb hnf) hs⟩

theorem noteD_first {B : Heap} {env : Env} {outer : List Env} {L e dx : Addr} {oe : Obj} {vs : Array Value} {Q : Unit → Shared → Prop}
    (hfr : A.frames = some (env :: outer)) (hl : s.heap.FunFrames B (env :: outer)) (hf : env.frame = some L)
    (he : s.heap.get? e = some oe) (hkb : B.StaysIn s.heap) (hen : B.get? e = none) (hd : oe.data = .fields vs) (h1 : vs[1]? = some .none) (hdx : oe.dict = some dx)
    (h : ∀ h', FlyD B (env :: outer) e oe.cls dx (rawInt L) h' → s.heap.UpToSlots h' → Q () { s with heap := h' }) : wpAny M A (noteFrame (.ref e) env) Q E s := by
  unfold noteFrame
  simp only [hf]
  refine wpAny_bind (wpAny_field he hd h1 ?_)
  rw [if_neg (by decide)]
  exact entryD hfr hl hf he hkb hen hd (Array.getElem?_eq_some_iff.mp h1).1 hdx h
theorem noteD_next {B : Heap} {env : Env} {outer : List Env} {L e dx : Addr} {cls : Value} {Q : Unit → Shared → Prop}
    (hfr : A.frames = some (env :: outer)) (hf : env.frame = some L) (x : FlyD B (env :: outer) e cls dx .none s.heap)
    (h : ∀ h', FlyD B (env :: outer) e cls dx (rawInt L) h' → s.heap.UpToSlots h' → Q () { s with heap := h' }) : wpAny M A (noteFrame (.ref e) env) Q E s := by
  obtain ⟨hkb, hen, hl, oe, vs, T, oT, ts, he, ⟨hcls, hdx⟩, hd, h1, hnT, hTe, hT, hdT, h3⟩ := x
  subst hcls
  unfold noteFrame
  simp only [hf]
  refine wpAny_bind (wpAny_field he hd h1 ?_)
  rw [if_pos (show (Value.ref T != Value.none) = true from by simp)]
  refine wpAny_bind (wpAny_field hT hdT h3 ?_)
  rw [if_neg (show ¬ ((Value.none == rawInt L) = true) from by simp [rawInt])]
  refine wpAny_bind (wpAny_setField hT hdT (Array.getElem?_eq_some_iff.mp h3).1 ?_)
  have other : ∀ b, b ≠ T → (s.heap.update T (Obj.mapFields (·.setIfInBounds 3 Value.none))).get? b = s.heap.get? b := fun b hb => Heap.get?_update_other _ _ (Ne.symm hb)
  have noRecord : ∀ b o, s.heap.get? b = some o → (∀ vs, o.data ≠ .fields vs) → b ≠ T := fun b o hb hnf q => by
    rw [q, hT] at hb; injection hb with hb; subst hb; exact hnf ts hdT
  refine entryD hfr (hl.of_keeps fun b o hb hnf => ⟨o, (other b (noRecord b o hb hnf)).trans hb, rfl⟩) hf ((other e (Ne.symm hTe)).trans he)
    (fun b o hbo => (other b fun q => by rw [q, hnT] at hbo; cases hbo).trans (hkb b o hbo)) hen hd (Array.getElem?_eq_some_iff.mp h1).1 hdx
    fun h' x1 x4 => h h' x1 fun b o hb hnf => x4 b o ((other b (noRecord b o hb hnf)).trans hb) hnf
theorem flightD {B : Heap} {l : List Env} {e dx : Addr} {cls fl : Value} {Q : Unit → Shared → Prop} (x : FlyD B l e cls dx fl s.heap)
    (h : ∀ h', FlyD B l e cls dx .none h' → s.heap.UpToSlots h' → Q () { s with heap := h' }) : wpAny M A (setFlight (.ref e) none) Q E s := by
  obtain ⟨hkb, hen, hl, oe, vs, T, oT, ts, he, hcls, hd, h1, hnT, hTe, hT, hdT, h3⟩ := x
  have hsz3 : 3 < ts.size := (Array.getElem?_eq_some_iff.mp h3).1
  have other : ∀ b, b ≠ T → (s.heap.update T (Obj.mapFields (·.setIfInBounds 3 ((none : Option Addr).elim Value.none fun f => rawInt f)))).get? b = s.heap.get? b :=
    fun b hb => Heap.get?_update_other _ _ (Ne.symm hb)
  have noRecord : ∀ b o, s.heap.get? b = some o → (∀ vs, o.data ≠ .fields vs) → b ≠ T := fun b o hb hnf q => by
    rw [q, hT] at hb; injection hb with hb; subst hb; exact hnf ts hdT
  unfold setFlight
  refine wpAny_bind (wpAny_field he hd h1 ?_)
  rw [if_pos (show (Value.ref T != Value.none) = true from by simp)]
  refine wpAny_setField hT hdT hsz3 (h _ ⟨fun b o hbo => (other b fun q => by rw [q, hnT] at hbo; cases hbo).trans (hkb b o hbo), hen,
    hl.of_keeps fun b o hb hnf => ⟨o, (other b (noRecord b o hb hnf)).trans hb, rfl⟩, ?_⟩ fun b o hb hnf => ⟨o.slots, (other b (noRecord b o hb hnf)).trans hb⟩)
  exact ⟨oe, vs, T, _, _, (other e (Ne.symm hTe)).trans he, hcls, hd, h1, hnT, hTe, Heap.get?_update_self _ hT (Obj.isFreed_of_fields (Obj.data_mapFields hdT _)), Obj.data_mapFields hdT _, by simp [hsz3]⟩
end
end
section
open PySem PySem.W PySem.Calls PySem.Spec PyProof.Rows PyProof.Rows.LCg
section
variable {M : Model} {A : Around} {E : Value → Shared → Prop} {env : Env}
variable {nm q : Str} {C N : Addr} {bs bm : List Value} {hdct : Bool} {sn : List Str} {sub : List Value} {ab : Bool} {col : Option Bool} {dd : Option Addr} {k0 k1 k2 k3 k5 : Option Value} {newId : String}
theorem raiseStmtD {s : Shared} {x : Sem Value} {Q : Flow → Shared → Prop} (hbase : bm.contains (.type "BaseException") = true) (hh : A.handled = none)
    (h : wpAny M A x (fun v s₁ => ∃ e od v0 v2 v3 v4 v5 sl, v = .ref e ∧ s₁.heap.get? C = some (excClassObj nm q C N bs bm hdct sn sub ab col dd k0 k1 k2 k3 k5 newId) ∧
      s₁.heap.get? e = some ⟨.ref C, od, .fields #[v0, .none, v2, v3, v4, v5], sl⟩ ∧ E (.ref e) s₁) E s) :
    wpAny M A (raiseStmt env (some x) none) Q E s := by
  have hcB : (Value.ref C :: bm).contains (.type "BaseException") = true := by rw [List.contains_cons, hbase, Bool.or_true]
  unfold raiseStmt
  refine wpAny_bind (wpAny_mono h (fun v s₁ h₁ => ?_) fun _ _ x => x)
  obtain ⟨e, od, v0, v2, v3, v4, v5, sl, rfl, hC, he, hE⟩ := h₁
  obtain ⟨hp, g, d, tk, os⟩ := s₁
  repeat (first | with_reducible refine wpAny_loadPart_at he ?_ | with_reducible refine wpAny_loadPart_at hC ?_ | (with_reducible refine wpAny_isSubtype_exc hC ?_; rw [hcB]) | wp_step)
  exact wpAny_raiseNew_none hh hE
end
end
section
open PySem PySem.W PySem.Calls PySem.Spec PyProof.Rows PyProof.Rows.LCg
inductive Rf (C : Cst) (c : Fc) (P : Addr → Mp → HL → Prop) (e : Value) (s' : Shared) : Prop
  | mk (ea dx : Addr) (g h : Heap) (tk : Nat) (m : Mp) (H : HL) (oe : Obj) (vs : Array Value) (q0 : e = .ref ea) (q1 : KtsTurn c.fs c.h₀ g) (q2 : s' = C.sh h tk) (q3 : Fr g c.L h m) (q4 : Led g c h ((ea, oe) :: H)) (q5 : oe.cls = .ref 71) (q6 : oe.dict = some dx) (q7 : oe.data = .fields vs) (q8 : vs[1]? = some .none) (q9 : P dx m H) : Rf C c P e s'
inductive Rz (C : Cst) (c : Fc) (P : Addr → Mp → HL → Prop) (e : Value) (s' : Shared) : Prop
  | mk (ea dx : Addr) (B g G h : Heap) (tk : Nat) (m : Mp) (H : HL) (q0 : e = .ref ea) (q1 : KtsTurn c.fs c.h₀ g) (q2 : s' = C.sh h tk) (q3 : Fr g c.L G m) (q4 : G.UpToSlots h) (q5 : c.base.StaysIn B)
      (q6 : ∀ b o, G.get? b = some o → b ∉ (c.env :: c.outer).filterMap (·.frame) → B.get? b = some o) (q7 : ∀ q ∈ H, B.get? q.1 = some q.2 ∧ G.get? q.1 = none) (q8 : (H.map (·.1)).Nodup)
      (q9 : FlyD B (c.env :: c.outer) ea (.ref 71) dx .none h) (q10 : P dx m H) : Rz C c P e s'
noncomputable def Rx (C : Cst) (c : Fc) (P : Addr → Mp → HL → Prop) (e : Value) (s' : Shared) : Prop := Rf C c P e s' ∨ Rz C c P e s'
noncomputable def WX (C : Cst) (c : Fc) {α : Type} (m : Mp) (H : HL) (t : Sem α) (Q : α → Mp → HL → Prop) (P : Addr → Mp → HL → Prop) : Prop :=
  ∀ g h tk, KtsTurn c.fs c.h₀ g → Fr g c.L h m → Led g c h H → wpAny C.M c.A t (Po C c Q) (Rx C c P) (C.sh h tk)
noncomputable def WZ (C : Cst) (c : Fc) {α : Type} (m : Mp) (H : HL) (t : Sem α) (Q : α → Mp → HL → Prop) (P : Addr → Mp → HL → Prop) : Prop :=
  ∀ g h tk, KtsTurn c.fs c.h₀ g → Fr g c.L h m → Led g c h H → wpAny C.M c.A t (Po C c Q) (Rz C c P) (C.sh h tk)
section
variable {C : Cst} {c : Fc} {α β : Type} {m : Mp} {H : HL} {env : Env} {n : Nat} {P : Addr → Mp → HL → Prop}
theorem WZ.toX {t : Sem α} {Q : α → Mp → HL → Prop} (x : WZ C c m H t Q P) : WX C c m H t Q P := fun _ _ _ T F N => wpAny_mono (x _ _ _ T F N) (fun _ _ q => q) fun _ _ q => .inr q
theorem WZ.run {t : Sem α} {Q : α → Mp → HL → Prop} (x : WZ C c m H t Q P) {g h : Heap} {tk : Nat} (T : KtsTurn c.fs c.h₀ g) (F : Fr g c.L h m) (N : Led g c h H) {Q' : α → Shared → Prop} {E : Value → Shared → Prop}
    (k : ∀ a g' h' tk' m' H', KtsTurn c.fs c.h₀ g' → Fr g' c.L h' m' → Led g' c h' H' → Q a m' H' → Q' a (C.sh h' tk')) (kE : ∀ e s', Rz C c P e s' → E e s') : wpAny C.M c.A t Q' E (C.sh h tk) :=
  wpAny_mono (x g h tk T F N) (fun a s' p => by obtain ⟨g', h', tk', m', H', T', rfl, F', N', q⟩ := p; exact k a g' h' tk' m' H' T' F' N' q) kE
theorem WX.of {t : Sem α} {Q : α → Mp → HL → Prop} (x : W C c m H t Q) : WX C c m H t Q P := fun _ _ _ T F N => x.run T F N fun _ _ _ _ _ _ T1 F1 N1 q => Po.in T1 F1 N1 q
theorem WX.run {t : Sem α} {Q : α → Mp → HL → Prop} (x : WX C c m H t Q P) {g h : Heap} {tk : Nat} (T : KtsTurn c.fs c.h₀ g) (F : Fr g c.L h m) (N : Led g c h H) {Q' : α → Shared → Prop} {E : Value → Shared → Prop}
    (k : ∀ a g' h' tk' m' H', KtsTurn c.fs c.h₀ g' → Fr g' c.L h' m' → Led g' c h' H' → Q a m' H' → Q' a (C.sh h' tk')) (kE : ∀ e s', Rx C c P e s' → E e s') : wpAny C.M c.A t Q' E (C.sh h tk) :=
  wpAny_mono (x g h tk T F N) (fun a s' p => by obtain ⟨g', h', tk', m', H', T', rfl, F', N', q⟩ := p; exact k a g' h' tk' m' H' T' F' N' q) kE
theorem WX.le {H' : HL} {t : Sem α} {Q : α → Mp → HL → Prop} (s : Le H' H) (x : WX C c m H' t Q P) : WX C c m H t Q P := fun _ _ _ T F N => x _ _ _ T F (N.le s)
theorem WX.monoX {t : Sem α} {Q : α → Mp → HL → Prop} {P' : Addr → Mp → HL → Prop} (x : WX C c m H t Q P') (k : ∀ d m H, P' d m H → P d m H) : WX C c m H t Q P := fun _ _ _ T F N =>
  wpAny_mono (x _ _ _ T F N) (fun _ _ q => q) fun e s' q => by
    rcases q with ⟨ea, dx, g, h, tk, m, H, oe, vs, a1, a2, a3, a4, a5, a6, a7, a8, a9, a10⟩ | ⟨ea, dx, B, g, G, h, tk, m, H, a1, a2, a3, a4, a5, a6, a7, a8, a9, a10, a11⟩
    · exact .inl ⟨ea, dx, g, h, tk, m, H, oe, vs, a1, a2, a3, a4, a5, a6, a7, a8, a9, k _ _ _ a10⟩
    · exact .inr ⟨ea, dx, B, g, G, h, tk, m, H, a1, a2, a3, a4, a5, a6, a7, a8, a9, a10, k _ _ _ a11⟩
theorem turn_none {fs : List Addr} {g g' : Heap} (T : KtsTurn fs g g') {b : Addr} (e : g'.get? b = none) : g.get? b = none := by
  cases q : g.get? b with
  | none => rfl
  | some o => obtain ⟨sl, hs⟩ := T.up q; rw [e] at hs; cases hs
theorem turn_slots {fs : List Addr} {g g' : Heap} (T : KtsTurn fs g g') : g.UpToSlots g' := fun b o e _ => T.up e
theorem mem_frames {c : Fc} {b : Addr} (h : b ∈ (c.env :: c.outer).filterMap (·.frame)) : b = c.L ∨ b ∈ c.fs := by simpa [Fc.fs] using h
theorem frames_sub {c : Fc} {b : Addr} (h : b ∈ c.fs) : b ∈ (c.env :: c.outer).filterMap (·.frame) := by
  have : b = c.L ∨ b ∈ c.fs := .inr h
  simpa [Fc.fs] using this

theorem leaveX {c' : Fc} {P' : Addr → Mp → HL → Prop} {n' : Nat} {g hh : Heap} {e : Value} {s' : Shared} (O' : Ok C c' n') (hout : c'.outer = c.env :: c.outer) (hb : c'.base = c.base) (hgh : c'.h₀ = ghostFor hh H)
    (T : KtsTurn c.fs c.h₀ g) (FG : Fr g c.L (ghostFor hh H) m) (hP : ∀ dx m' H', P' dx m' H' → P dx m H') (R : Rx C c' P' e s') {Q : Unit → Shared → Prop} {E : Value → Shared → Prop} (hQ : ∀ s'', Rz C c P e s'' → Q () s'') :
    wpAny C.M c'.A (leaving c'.env e) Q E s' := by
  unfold leaving
  rcases R with ⟨ea, dx, g', h, tk, m', H', oe, vs, rfl, T', rfl, F', N', hcls, hdx, hd, h1, hp⟩ | ⟨ea, dx, B, g1, G1, h, tk, m1, H1, rfl, T1, rfl, F1, hsm, hB, hBG, hn, hnd, hfl, hp⟩
  · have Bl := O'.B T'
    have Bp := pushX Bl F' (env := c'.env) rfl O'.hk
    have he := N'.N (ea, oe) (.head _)
    have hne : ∀ b o, g'.get? b = some o → b ≠ ea ∧ b ≠ c'.L := fun b o q => ⟨fun z => (by rw [z, he.2.2] at q; cases q), fun z => (by rw [z, kts_self F'] at q; cases q)⟩
    have nd := List.nodup_cons.mp N'.nd
    have hfr : ∀ b, b ∈ (c'.env :: c'.outer).filterMap (·.frame) → b = c'.L ∨ (c'.base.get? b = none ∧ ∃ o, g'.get? b = some o) := fun b hb => by
      rcases mem_frames hb with z | z
      · exact .inl z
      · obtain ⟨z1, o, z2, _⟩ := Bl.frames.mem z
        exact .inr ⟨z1, o, z2⟩
    have hbase : ∀ b o, c'.base.get? b = some o → b ∉ ea :: (c'.env :: c'.outer).filterMap (·.frame) := fun b o q hm => by
      have q' := Bl.stays b o q
      rcases List.mem_cons.mp hm with z | z
      · exact (hne b o q').1 z
      · rcases hfr b z with z | ⟨z, _⟩
        · exact (hne b o q').2 z
        · rw [z] at q; cases q
    refine wpAny_bind (noteD_first (B := hideAll h (ea :: (c'.env :: c'.outer).filterMap (·.frame))) (env := c'.env) (outer := c'.outer) rfl ?_ rfl he.1 (fun b o q => of_hideAll _ q) (hideAll_none _ (.head _)) hd h1 hdx fun h2 x2 s2 => ?_)
    · exact funFrames_hide Bp.frames fun env hv a ha => .tail _ (List.mem_filterMap.mpr ⟨env, hv, ha⟩)
    · rw [hcls] at x2
      refine flightD x2 fun h3 x3 s3 => hQ _ ?_
      obtain ⟨y1, y2, ⟨_, _, y3⟩, y4⟩ := x3
      have hG : (ghostFor hh H).UpToSlots h3 := by
        rw [← hgh]
        exact (((turn_slots T').trans (Heap.UpToSlots.of_keeps F'.keep)).trans s2).trans s3
      refine ⟨ea, dx, _, g, ghostFor hh H, h3, tk, m, H', rfl, T, rfl, FG, hG, fun b o q => ?_, fun b o q hm => ?_, fun q hq => ?_, nd.2, ⟨y1, y2, hout ▸ y3, y4⟩, hP _ _ _ hp⟩
      · rw [← hb] at q
        exact hideAll_get _ (F'.keep b o (Bl.stays b o q)) (hbase b o q)
      · rw [← hgh] at q
        have hm' : b ∉ c'.fs := by unfold Fc.fs; rw [hout]; exact hm
        have q' := T'.other b o q hm'
        refine hideAll_get _ (F'.keep b o q') fun hm2 => ?_
        rcases List.mem_cons.mp hm2 with z | z
        · exact (hne b o q').1 z
        · rcases mem_frames z with z | z
          · exact (hne b o q').2 z
          · exact hm' z
      · have D := N'.N q (.tail _ hq)
        refine ⟨hideAll_get _ D.1 fun hm2 => ?_, ?_⟩
        · rcases List.mem_cons.mp hm2 with z | z
          · exact nd.1 (List.mem_map.mpr ⟨q, hq, z⟩)
          · rcases hfr _ z with z | ⟨_, o, z⟩
            · exact D.2.1 z
            · rw [D.2.2] at z; cases z
        · rw [← hgh]; exact turn_none T' D.2.2
  · refine wpAny_bind (noteD_next (B := B) (env := c'.env) (outer := c'.outer) rfl rfl hfl fun h2 x2 s2 => ?_)
    refine flightD x2 fun h3 x3 s3 => hQ _ ?_
    obtain ⟨y1, y2, ⟨_, _, y3⟩, y4⟩ := x3
    have hG : (ghostFor hh H).UpToSlots h3 := by
      rw [← hgh]
      exact ((((turn_slots T1).trans (Heap.UpToSlots.of_keeps F1.keep)).trans hsm).trans s2).trans s3
    refine ⟨ea, dx, B, g, ghostFor hh H, h3, tk, m, H1, rfl, T, rfl, FG, hG, hb ▸ hB, fun b o q hm => ?_, fun q hq => ⟨(hn q hq).1, ?_⟩, hnd, ⟨y1, y2, hout ▸ y3, y4⟩, hP _ _ _ hp⟩
    · rw [← hgh] at q
      have hm' : b ∉ c'.fs := by unfold Fc.fs; rw [hout]; exact hm
      have q' := T1.other b o q hm'
      refine hBG b o (F1.keep b o q') fun hm2 => ?_
      rcases mem_frames hm2 with z | z
      · rw [z, kts_self F1] at q'; cases q'
      · exact hm' z
    · rw [← hgh]; exact turn_none T1 (kts_none F1.keep (hn q hq).2)
end
end
section
open PySem PySem.W PySem.Calls PySem.Spec PyProof.Rows PyProof.Rows.LCg
section
variable {C : Cst} {c : Fc} {α β : Type} {m : Mp} {H : HL} {env : Env} {n : Nat} {P : Addr → Mp → HL → Prop}
-- statements and expressions that may raise
theorem WX_cons {st : Stmt} {rest : List Stmt} {Qn : Mp → HL → Prop} {Qr : Value → Mp → HL → Prop} (h : WX C c m H (exec st env) (SP (fun m1 H1 => WX C c m1 H1 (execs rest env) (SP Qn Qr) P) Qr) P) :
    WX C c m H (execs (st :: rest) env) (SP Qn Qr) P := fun _ _ _ T F N => wpAny_execs_cons (h.run T F N (fun f _ _ _ _ _ T1 F1 N1 q => by
  cases f with
  | next => exact q _ _ _ T1 F1 N1
  | ret v => exact Po.in T1 F1 N1 q
  | brk => exact q.elim
  | cont => exact q.elim) fun _ _ q => q)
theorem WX_consW {st : Stmt} {rest : List Stmt} {Qn : Mp → HL → Prop} {Qr : Value → Mp → HL → Prop} (h : W C c m H (exec st env) (SP (fun m1 H1 => WX C c m1 H1 (execs rest env) (SP Qn Qr) P) Qr)) :
    WX C c m H (execs (st :: rest) env) (SP Qn Qr) P := WX_cons (WX.of h)
theorem WX_If {t : Expr} {b o : List Stmt} {pos : Pos} {Qn : Mp → HL → Prop} {Qr : Value → Mp → HL → Prop}
    (h : W C c m H (isTrue t env (eval t env)) fun x m1 H1 => (x = true → WX C c m1 H1 (execs b env) (SP Qn Qr) P) ∧ (x = false → WX C c m1 H1 (execs o env) (SP Qn Qr) P)) :
    WX C c m H (exec (.If t b o pos) env) (SP Qn Qr) P := fun _ _ _ T F N => wpAny_If (h.run T F N fun x _ _ _ _ _ T1 F1 N1 q => by
  cases x with
  | true => exact q.1 rfl _ _ _ T1 F1 N1
  | false => exact q.2 rfl _ _ _ T1 F1 N1)
theorem WX_Return {e : Expr} {pos : Pos} {Qn : Mp → HL → Prop} {Qr : Value → Mp → HL → Prop} (h : WX C c m H (eval e env) Qr P) : WX C c m H (exec (.Return (some e) pos) env) (SP Qn Qr) P :=
  fun _ _ _ T F N => wpAny_Return_some (h.run T F N (fun _ _ _ _ _ _ T1 F1 N1 q => Po.in T1 F1 N1 q) fun _ _ q => q)
theorem WX_Method {o : Expr} {name : Str} {ap pos : Pos} {args : List Expr} {pl : Sem Bool} {Q : Value → Mp → HL → Prop}
    (h : W C c m H (eval o env) fun ov m1 H1 => W C c m1 H1 (getMethod ov name pl) fun fx m2 H2 => WX C c m2 H2 (callWith pos fx.1 fx.2 (backTo pos (starEach args env)) []) Q P)
    (he : eval (.Call (.Attribute o name ap) args [] pos) env = (do
      let ov ← eval o env
      standAt ap.atName
      let (f, first) ← holding [ov] (getMethod ov name pl)
      callWith pos f first (backTo pos (starEach args env)) []) := by rfl) : WX C c m H (eval (.Call (.Attribute o name ap) args [] pos) env) Q P :=
  fun _ _ _ T F N => MethodCall_ (h.run T F N fun _ _ _ _ _ _ T1 F1 N1 q => q.run T1 F1 N1 fun _ _ _ _ _ _ T2 F2 N2 q => q _ _ _ T2 F2 N2) he
theorem WX_callK {f : Value} {first : List Value} {pos : Pos} {e : Expr} {rest : List Expr} {Q : Value → Mp → HL → Prop} (O : Ok C c n) (hk : keepIn (Mine.kk C.w.params) f = true)
    (h : W C c m H (spliced (backTo pos (starEach (e :: rest) env))) fun vs m1 H1 => WX C c m1 H1 (call f (first ++ vs)) Q P)
    (he : starEach (e :: rest) env = (false, eval e env) :: starEach rest env := by rfl) (hp : (backTo pos (starEach rest env)).any (·.1) = false := by rfl) :
    WX C c m H (callWith pos f first (backTo pos (starEach (e :: rest) env)) []) Q P := fun _ _ _ T F N =>
  callWith_K (h₀ := c.base) O.XB hk (h.run T F N fun _ _ _ _ _ _ T1 F1 N1 q => ⟨(O.K T1).keeps F1.keep, q _ _ _ T1 F1 N1⟩) he hp
theorem WX_Raise {x : Expr} {pos : Pos} {Qn : Mp → HL → Prop} {Qr : Value → Mp → HL → Prop} (O : Ok C c n) (hq : ktsIn (Mine.kk C.w.params) 71 "BaseException" = true)
    (h : W C c m H (eval x env) fun v m1 H1 => ∃ ea dx v0 v2 v3 v4 v5 sl H2, v = .ref ea ∧ Le ((ea, ⟨.ref 71, some dx, .fields #[v0, .none, v2, v3, v4, v5], sl⟩) :: H2) H1 ∧ P dx m1 H2) :
    WX C c m H (exec (.Raise (some x) none pos) env) (SP Qn Qr) P := fun _ _ _ T F N => by
  obtain ⟨nm, qn, Nn, bs, bm, hdct, sn, sub, ab, col, dd, k0, k1, k2, k3, k5, newId, hC, hb, _⟩ := kts_cls O.XB hq
  rw [arm_exec_Raise]
  refine wpAny_bind (wpAny_standAt ?_)
  refine raiseStmtD (nm := nm) (q := qn) (C := 71) (N := Nn) (bs := bs) (bm := bm) (hdct := hdct) (sn := sn) (sub := sub) (ab := ab) (col := col) (dd := dd) (k0 := k0) (k1 := k1) (k2 := k2) (k3 := k3) (k5 := k5) (newId := newId) hb rfl ?_
  show wpAny _ _ (eval x env >>= fun v => standAt pos >>= fun _ => pure v) _ _ _
  refine wpAny_bind (h.run T F N fun v g1 h1 tk1 m1 H1 T1 F1 N1 q => wpAny_bind (wpAny_standAt (wpAny_pure ?_)))
  obtain ⟨ea, dx, v0, v2, v3, v4, v5, sl, H2, rfl, l, hp⟩ := q
  have N2 := N1.le l
  exact ⟨ea, some dx, v0, v2, v3, v4, v5, sl, rfl, F1.keep _ _ ((O.B T1).stays _ _ hC), N2.get (.head _), .inl ⟨ea, dx, g1, h1, tk1, m1, H2, _, _, rfl, T1, rfl, F1, N2, rfl, rfl, rfl, rfl, hp⟩⟩

theorem WZ_def {f : Addr} {name qual : Str} {params : Arguments} {body : List Stmt} {scope : Scope} {dV kV doc pm cdv ct oc : Value} {an od : Option Addr} {osl : Array (Option Value)} {args : List Value} {binds : List (Str × Value)} {Q : Value → Mp → HL → Prop}
    (O : Ok C c (n + 1)) (ho : List.lookup f (Mine.kk C.w.params) = some ⟨oc, od, .func (fnOf name qual params body scope dV kV doc pm an cdv ct), osl⟩) (hcd : codeIn (Mine.kk C.w.params) cdv qual = true)
    (hb : bindArgs (fnOf name qual params body scope dV kV doc pm an cdv ct) ⟨args, []⟩ = pure binds) (hloc : (binds.all fun x => decide (scope.names.lookup x.1 = some .local)) = true)
    (h : ∀ outer A₀ base h₀ L, Ok C ⟨c.dp + 1, c.un + 3, qual, scope, f, cdv, [], outer, A₀, base, h₀, L⟩ n →
      WX C ⟨c.dp + 1, c.un + 3, qual, scope, f, cdv, [], outer, A₀, base, h₀, L⟩ (mOf binds) H (execs body (Fc.env ⟨c.dp + 1, c.un + 3, qual, scope, f, cdv, [], outer, A₀, base, h₀, L⟩)) (SP (fun _ H' => Dr (Q .none m) H') (fun v _ H' => Dr (Q v m) H')) fun dx _ H' => P dx m H')
    (hco : scope.isCoroutine = false) (hgen : scope.isGenerator = false) (hk : scope.kind = .function) (hcell : ∀ x ∈ scope.names, x.2 ≠ .cell) :
    WZ C c m H (call (.ref f) args) Q P := fun g hh tk T F N => by
  obtain ⟨BG, st, DG, FG⟩ := enterG O T F N (A' := c.A) rfl
  have X := (O.K T).keeps F.keep
  refine wpAny_call (codeAny_call_def (fd := fnOf name qual params body scope dV kV doc pm an cdv ct) (body := body) (binds := binds) (by have := O.hd; exact Nat.lt_of_le_of_lt (Nat.le_add_right _ _) this) (X _ _ ho) rfl ((O.T T).nolimit.keeps F.keep) (codeRec_of X hcd) rfl (BindsTo.of_eq hb) hcell (locs hloc) (fun h₁ hns hk₁ => ?_) hco hgen hk)
  rw [mOf_eq] at hns
  have O' : Ok C ⟨c.dp + 1, c.un + 3, qual, scope, f, cdv, [], c.env :: c.outer, c.A, c.base, ghostFor hh H, hh.objs.size⟩ n := ⟨BG, DG, O.XB, O.TB, hk, by have := O.hd; simp only; omega, by have := O.hu; simp only; omega⟩
  refine (h _ _ _ _ _ O').run (tk := tk + binds.length) KtsTurn.refl ⟨hns, fun b o e => hk₁ b o (of_hideAll _ e), Nat.le_of_eq (hideAll_size _ _)⟩
    ⟨fun p hp => ⟨hk₁ _ _ (N.N p hp).1, Nat.ne_of_lt (Heap.lt_size (N.N p hp).1), hideAll_none _ (List.mem_map_of_mem hp)⟩, N.nd⟩ (fun fl g' h' tk' m' H' T1 F1 N1 q => ?_) fun e s' R => ?_
  · obtain ⟨g2, T2, F2, N2⟩ := leaveG O T F N T1 F1 N1.N N1.nd
    cases fl with
    | next => obtain ⟨H2, l2, q⟩ := q; exact Po.in T2 F2 (N2.le l2) q
    | ret v => obtain ⟨H2, l2, q⟩ := q; exact Po.in T2 F2 (N2.le l2) q
    | brk => exact q.elim
    | cont => exact q.elim
  · exact leaveX O' rfl rfl rfl T FG (fun _ _ _ p => p) R fun s'' z => z
end
end
section
open PySem PySem.W PySem.Calls PySem.Spec PyProof.Rows PyProof.Rows.LCg
section
variable {C : Cst} {c : Fc} {α β : Type} {m : Mp} {H : HL} {env : Env} {n : Nat} {P : Addr → Mp → HL → Prop}
theorem W.ofX {t : Sem α} {Q : α → Mp → HL → Prop} (x : WX C c m H t Q fun _ _ _ => False) : W C c m H t Q := fun _ _ _ T F N =>
  wpAny_mono (x _ _ _ T F N) (fun _ _ q => q) fun e s' q => by
    rcases q with ⟨ea, dx, g, h, tk, m, H, oe, vs, a1, a2, a3, a4, a5, a6, a7, a8, a9, a10⟩ | ⟨ea, dx, B, g, G, h, tk, m, H, a1, a2, a3, a4, a5, a6, a7, a8, a9, a10, a11⟩
    · exact a10
    · exact a11

theorem updF_of {P : Addr} {o : Obj} {g : Obj → HL} (U : ∀ o', At P o o' H (g o')) (nd : (H.map (·.1)).Nodup) : ∃ g', UpdF P o H g' ∧ ∀ o', g' o' = g o' := by
  obtain ⟨l, r, e1, e2⟩ := (U o).split
  have key : ∀ (l : HL), ((l ++ (P, o) :: r).map (·.1)).Nodup → UpdF P o (l ++ (P, o) :: r) (fun o' => l ++ (P, o') :: r) := by
    intro l
    induction l with
    | nil =>
      intro nd
      exact UpdF.head fun p hp q => (List.nodup_cons.mp nd).1 (List.mem_map.mpr ⟨p, hp, q⟩)
    | cons p l ih =>
      intro nd
      have nd' := List.nodup_cons.mp nd
      exact UpdF.tail (fun q => nd'.1 (List.mem_map.mpr ⟨(P, o), List.mem_append_right _ (.head _), q.symm⟩)) (ih nd'.2)
  refine ⟨fun o' => l ++ (P, o') :: r, e1 ▸ key l (e1 ▸ nd), fun o' => ?_⟩
  obtain ⟨l', r', e3, e4⟩ := (U o').split
  have nd1 := nd
  rw [e1] at nd1
  have e5 : l ++ (P, o) :: r = l' ++ (P, o) :: r' := e1.symm.trans e3
  -- the same place, since addresses are distinct
  have same : ∀ (l l' : HL), ((l ++ (P, o) :: r).map (·.1)).Nodup → l ++ (P, o) :: r = l' ++ (P, o) :: r' → l = l' ∧ r = r' := by
    intro l
    induction l with
    | nil =>
      intro l' nd e
      cases l' with
      | nil => simp at e; exact ⟨rfl, e⟩
      | cons p l' =>
        simp only [List.nil_append, List.cons_append, List.cons.injEq] at e
        obtain ⟨rfl, e⟩ := e
        exact absurd (List.mem_map.mpr ⟨(P, o), e ▸ List.mem_append_right _ (.head _), rfl⟩) (List.nodup_cons.mp nd).1
    | cons p l ih =>
      intro l' nd e
      cases l' with
      | nil =>
        simp only [List.nil_append, List.cons_append, List.cons.injEq] at e
        obtain ⟨rfl, e⟩ := e
        exact absurd (List.mem_map.mpr ⟨(P, o), List.mem_append_right _ (.head _), rfl⟩) (List.nodup_cons.mp nd).1
      | cons p' l' =>
        simp only [List.cons_append, List.cons.injEq] at e
        obtain ⟨rfl, e⟩ := e
        obtain ⟨a, b⟩ := ih l' (List.nodup_cons.mp nd).2 e
        exact ⟨by rw [a], b⟩
  obtain ⟨a, b⟩ := same l l' nd1 e5
  show l ++ (P, o') :: r = g o'
  rw [e4, a, b]

noncomputable def CodeOf (oc : Obj) (q : Str) : Prop := ∃ vs t, oc.data = .fields vs ∧ vs[1]? = some (.str q t)
theorem W_lamNew {params : Arguments} {body : Expr} {scope : Scope} {pos : Pos} {clos : List (Str × Addr)} {cc PT : Addr} {ps : Array Value} {g : Obj → HL} {Q : Value → Mp → HL → Prop} (O : Ok C c n)
    (hcd : c.ccd = .ref cc) (hC : codeHdIn (Mine.kk C.w.params) cc PT = true) (U : ∀ o', At PT (tabObj ps) o' H (g o')) (ht : TriplesOk ps.toList) (hnf : codeAmong pos ps.toList = none)
    (hcl : closureFor scope c.env = pure clos) (hdef : defaultsOf params c.env = ([], []))
    (h : ∀ f c' oc ctv pm, CodeOf oc (c.env.qual ++ "<lambda>") → Q (.ref f) m ((f, kla_obj "<lambda>" (c.env.qual ++ "<lambda>") params body scope clos pm c' ctv) :: (c', oc) :: g (tabObj (ps ++ #[rawInt pos.line, rawInt pos.col, .ref c'])))) :
    W C c m H (eval (.Lambda params body scope pos) c.env) Q := fun g0 hh tk T F N => by
  obtain ⟨g', U', eg⟩ := updF_of U N.nd
  refine kla_eval hdef (kla_nest F N.N (O.T T) (codeHd_of_K (O.K T) hC) hcd U' ht hnf hcl fun f c' oc vs t ctv h' tk' F' N' d1 d2 l1 l2 => ?_)
  rw [eg] at N'
  have hk := (U (tabObj (ps ++ #[rawInt pos.line, rawInt pos.col, .ref c']))).keys
  refine Po.in T F' ⟨N', ?_⟩ (h _ _ _ _ _ ⟨vs, t, d1, d2⟩)
  rw [List.map_cons, List.map_cons, hk]
  refine List.nodup_cons.mpr ⟨fun q => ?_, List.nodup_cons.mpr ⟨fun q => ?_, N.nd⟩⟩
  · rcases List.mem_cons.mp q with q | q
    · exact Nat.ne_of_lt l2 q.symm
    · obtain ⟨p, hp, e⟩ := List.mem_map.mp q
      exact Nat.ne_of_lt (Nat.lt_trans (l1 p hp) l2) e
  · obtain ⟨p, hp, e⟩ := List.mem_map.mp q
    exact Nat.ne_of_lt (l1 p hp) e
theorem W_lamHit {params : Arguments} {body : Expr} {scope : Scope} {pos : Pos} {clos : List (Str × Addr)} {cc PT c' : Addr} {ps : Array Value} {Q : Value → Mp → HL → Prop} (O : Ok C c n)
    (hcd : c.ccd = .ref cc) (hC : codeHdIn (Mine.kk C.w.params) cc PT = true) (hm : (PT, tabObj ps) ∈ H) (ht : TriplesOk ps.toList) (hf : codeAmong pos ps.toList = some (.ref c'))
    (hcl : closureFor scope c.env = pure clos) (hdef : defaultsOf params c.env = ([], []))
    (h : ∀ f ctv pm, Q (.ref f) m ((f, kla_obj "<lambda>" (c.env.qual ++ "<lambda>") params body scope clos pm c' ctv) :: H)) :
    W C c m H (eval (.Lambda params body scope pos) c.env) Q := fun g0 hh tk T F N => by
  refine kla_eval hdef (kla_hit F N.N (O.T T) (codeHd_of_K (O.K T) hC) hcd hm ht hf hcl fun f ctv h' tk' F' N' l1 => ?_)
  exact Po.in T F' (N.cons' N' l1) (h _ _ _)

theorem WZ_callLam {f c' : Addr} {qual : Str} {params : Arguments} {body : Expr} {scope : Scope} {clos : List (Str × Addr)} {pm ctv : Value} {oc : Obj} {args : List Value} {binds : List (Str × Value)} {Q : Value → Mp → HL → Prop}
    (O : Ok C c (n + 1)) (ho : (f, kla_obj "<lambda>" qual params body scope clos pm c' ctv) ∈ H) (hoc : (c', oc) ∈ H) (hcd : CodeOf oc qual)
    (hb : bindArgs (kla_fn "<lambda>" qual params body scope clos pm (.ref c') ctv) ⟨args, []⟩ = pure binds) (hloc : (binds.all fun x => decide (scope.names.lookup x.1 = some .local)) = true)
    (h : ∀ outer A₀ base h₀ L, Ok C ⟨c.dp + 1, c.un + 3, qual, scope, f, .ref c', clos, outer, A₀, base, h₀, L⟩ n →
      WX C ⟨c.dp + 1, c.un + 3, qual, scope, f, .ref c', clos, outer, A₀, base, h₀, L⟩ (mOf binds) H (eval body (Fc.env ⟨c.dp + 1, c.un + 3, qual, scope, f, .ref c', clos, outer, A₀, base, h₀, L⟩)) (fun v _ H' => Dr (Q v m) H') fun dx _ H' => P dx m H')
    (hco : scope.isCoroutine = false) (hgen : scope.isGenerator = false) (hk : scope.kind = .function) (hcell : ∀ x ∈ scope.names, x.2 ≠ .cell) :
    WZ C c m H (call (.ref f) args) Q P := fun g hh tk T F N => by
  obtain ⟨BG, st, DG, FG⟩ := enterG O T F N (A' := c.A) rfl
  obtain ⟨vs, t, d1, d2⟩ := hcd
  refine wpAny_call (kla_callFunE (by have := O.hd; exact Nat.lt_of_le_of_lt (Nat.le_add_right _ _) this) (N.get ho) rfl hco hgen rfl ⟨c', oc, vs, t, rfl, N.get hoc, d1, d2⟩ ?_)
  rw [hb]
  refine wpAny_pure (wpAny_newFunctionEnv hcell (locs hloc) (fun h₁ hns hsb => ⟨((O.T T).nolimit.keeps F.keep).fresh _ hsb, ?_⟩) hk)
  rw [mOf_eq] at hns
  have hk₁ : ∀ b o, hh.get? b = some o → h₁.get? b = some o := fun b o e => hsb.extBut b o (Nat.ne_of_lt (Heap.lt_size e)) (Heap.get?_push_of_some _ e)
  have O' : Ok C ⟨c.dp + 1, c.un + 3, qual, scope, f, .ref c', clos, c.env :: c.outer, c.A, c.base, ghostFor hh H, hh.objs.size⟩ n := ⟨BG, DG, O.XB, O.TB, hk, by have := O.hd; simp only; omega, by have := O.hu; simp only; omega⟩
  refine kla_codeExpr ((h _ _ _ _ _ O').run (tk := tk + binds.length) KtsTurn.refl ⟨hns, fun b o e => hk₁ b o (of_hideAll _ e), Nat.le_of_eq (hideAll_size _ _)⟩
    ⟨fun p hp => ⟨hk₁ _ _ (N.N p hp).1, Nat.ne_of_lt (Heap.lt_size (N.N p hp).1), hideAll_none _ (List.mem_map_of_mem hp)⟩, N.nd⟩ (fun v g' h' tk' m' H' T1 F1 N1 q => ?_) fun e s' R => ?_)
  · obtain ⟨g2, T2, F2, N2⟩ := leaveG O T F N T1 F1 N1.N N1.nd
    obtain ⟨H2, l2, q⟩ := q
    exact Po.in T2 F2 (N2.le l2) q
  · exact leaveX O' rfl rfl rfl T FG (fun _ _ _ p => p) R fun s'' z => z
theorem WZ_callF0 {q : Addr} {o : Obj} {fd : FuncData} {pos : Pos} {Q : Value → Mp → HL → Prop} (hm : (q, o) ∈ H) (hd : o.data = .func fd) (h : WZ C c m H (call (.ref q) []) Q P) :
    WZ C c m H (callWith pos (.ref q) [] (backTo pos (starEach [] env)) []) Q P := fun _ _ _ T F N => by
  obtain ⟨oc, od, dt, sl⟩ := o
  simp only at hd
  subst hd
  exact callWith_F0 ⟨oc, od, fd, sl, N.get hm⟩ (h _ _ _ T F N)
theorem WZ.mono {t : Sem α} {Q Q' : α → Mp → HL → Prop} {P' : Addr → Mp → HL → Prop} (x : WZ C c m H t Q P) (k : ∀ a m' H', Q a m' H' → Q' a m' H') (kP : ∀ d m' H', P d m' H' → P' d m' H') : WZ C c m H t Q' P' :=
  fun _ _ _ T F N => x.run T F N (fun a _ _ _ _ _ T' F' N' q => Po.in T' F' N' (k a _ _ q)) fun e s' R => by
    obtain ⟨ea, dx, B, g, G, h, tk, m, H, a1, a2, a3, a4, a5, a6, a7, a8, a9, a10, a11⟩ := R
    exact ⟨ea, dx, B, g, G, h, tk, m, H, a1, a2, a3, a4, a5, a6, a7, a8, a9, a10, kP _ _ _ a11⟩
theorem WZ_cons {st : Stmt} {rest : List Stmt} {Qn : Mp → HL → Prop} {Qr : Value → Mp → HL → Prop} (h : WZ C c m H (exec st env) (SP (fun m1 H1 => WZ C c m1 H1 (execs rest env) (SP Qn Qr) P) Qr) P) :
    WZ C c m H (execs (st :: rest) env) (SP Qn Qr) P := fun _ _ _ T F N => wpAny_execs_cons (h.run T F N (fun f _ _ _ _ _ T1 F1 N1 q => by
  cases f with
  | next => exact q _ _ _ T1 F1 N1
  | ret v => exact Po.in T1 F1 N1 q
  | brk => exact q.elim
  | cont => exact q.elim) fun _ _ q => q)
theorem WZ_Return {e : Expr} {pos : Pos} {Qn : Mp → HL → Prop} {Qr : Value → Mp → HL → Prop} (h : WZ C c m H (eval e env) Qr P) : WZ C c m H (exec (.Return (some e) pos) env) (SP Qn Qr) P :=
  fun _ _ _ T F N => wpAny_Return_some (h.run T F N (fun _ _ _ _ _ _ T1 F1 N1 q => Po.in T1 F1 N1 q) fun _ _ q => q)
theorem WZ_CallName {f : Str} {p pos : Pos} {args : List Expr} {Q : Value → Mp → HL → Prop} (h : W C c m H (eval (.Name f p) env) fun fv m1 H1 => WZ C c m1 H1 (callWith pos fv [] (backTo pos (starEach args env)) []) Q P) :
    WZ C c m H (eval (.Call (.Name f p) args [] pos) env) Q P := fun _ _ _ T F N => wpAny_Call_Name_kw (h.run T F N fun _ _ _ _ _ _ T1 F1 N1 q => q _ _ _ T1 F1 N1)
end
end
section
open PySem PySem.W PySem.Calls PySem.Spec PyProof.Rows PyProof.Rows.LCg
section
variable {prog : Program} {w : World} {A : Around} {E : Value → Shared → Prop} {K : Frag} {x C : Addr} {ox : Obj} {od : Option Obj} {name : Str} {expr : Bool} {Q : Value → Shared → Prop}
theorem bexc_slotE : Slot "Exception" "__getattribute__" "BaseException.__getattribute__" :=
  .of (owner := "BaseException") (n := "__getattribute__") (by rw [typeLookup_type, builtinLookup_eq_fast]; kernel_rfl) (by decide +kernel) (by decide +kernel) (by decide +kernel)
    (by first | exact .inl (by decide +kernel) | exact .inr (by decide +kernel)) (by rw [isSubtype_type]; kernel_rfl)
theorem getExc {s : Shared} {v : Value} (X : K.In s.heap) (I : InstAt s.heap x ox C od) (hga : findIn K (.ref C) "__getattribute__" = some (some (.builtin "BaseException.__getattribute__"))) (hg2 : findIn K (.ref C) "__getattr__" = some none)
    (hsub : subIn K (.ref C) (.type "BaseException") = some true)
    (hf : findObj K C od name = some (.value v)) (hh : handedIn v = true) (h : Q v { s with toks := s.toks + 1 }) : wpAny (model prog w) A (getAttr (.ref x) name expr) Q E s := by
  have L0 := I.type (M := model prog w)
  have L1 := looks_findIn (M := model prog w) X hga
  have L3 := looks_find (M := model prog w) X I hf
  have L4 := looks_subIn (M := model prog w) X hsub
  have L5 : Looks (model prog w) s.heap (hookBefore (.ref C)) none := looks_hook X (by rw [if_pos (show onTheHeap (.ref C) = true from rfl)]; exact hg2)
  refine wpAny_bind (wpAny_mkText (wpAny_holding (wpAny_bind (L0 _ _ _ _ (fun _ _ e => e) (wpAny_bind (L1 _ _ _ _ (fun _ _ e => e) ?_))))))
  dsimp only
  rw [show (onTheHeap (.ref C) && Value.builtin "BaseException.__getattribute__" == Value.builtin "object.__getattribute__") = false from by rw [show (Value.builtin "BaseException.__getattribute__" == Value.builtin "object.__getattribute__") = false from by decide +kernel, Bool.and_false], if_neg (by decide)]
  refine wpAny_bind (L5 _ _ _ _ (fun _ _ e => e) (wpAny_bind (wpAny_attempt (wpAny_holding ?_))))
  unfold callGetattribute
  rw [show (expr && onTheHeap (Value.builtin "BaseException.__getattribute__")) = false from Bool.and_false _, if_neg (by decide)]
  unfold boundAndCalled
  rw [bexc_slotE.bind]
  refine wpAny_bind (wpAny_pure ?_)
  show wpAny _ _ (call (.builtin "BaseException.__getattribute__") [.ref x, .str name s.toks]) _ _ _
  refine wpAny_call ?_
  refine codeAny_call_builtin bexc_slotE.plain F.entry_bexc_ga ?_
  refine @check_slot (model prog w) _ _ { s with toks := s.toks + 1 } "BaseException.__getattribute__" "BaseException" "__getattribute__" (.ref x) [.str name s.toks] [] _ (by decide +kernel) (by decide +kernel) (L0.andThen L4) (F.args_bexc_ga (.ref x) (.str name s.toks)) ?_
  unfold Builtin.«object.__getattribute__»
  obtain ⟨hp, g, d, t, os⟩ := s
  refine wpAny_bind (wpAny_pure (wpAny_bind (wpAny_pure (wpAny_bind (L0.at (wpAny_bind (L3.at ?_)))))))
  refine wpAny_pure ?_
  show wpAny _ _ (handedOut v) _ _ _
  rw [handedOut_of hh]; exact wpAny_pure h
end
end
section
open PySem PySem.W PySem.Calls PySem.Spec PyProof.Rows PyProof.Rows.LCg
section
variable {C : Cst} {c : Fc} {α β : Type} {m : Mp} {H : HL} {env : Env} {n : Nat} {P : Addr → Mp → HL → Prop}
theorem groundT {g G B h₅ : Heap} (O : Ok C c n) (T : KtsTurn c.fs c.h₀ g) (F : Fr g c.L G m) (hBG : ∀ b o, G.get? b = some o → b ∉ (c.env :: c.outer).filterMap (·.frame) → B.get? b = some o) (hBh : B.StaysIn h₅) (hsm : G.UpToSlots h₅) :
    ∃ g', KtsTurn c.fs c.h₀ g' ∧ KtsTurn c.fs g g' ∧ Fr g' c.L h₅ m := by
  have K := O.B T
  obtain ⟨T₁, S⟩ := kts_turn_at (h := h₅) (fs := c.fs) (g := g)
    (fun b hb => by
      obtain ⟨_, o, ho, _⟩ := K.frames.mem hb
      exact ⟨o, ho⟩)
    (fun b o e nm => hBh b o (hBG b o (F.keep b o e) (fun hm => by
      rcases mem_frames hm with z | z
      · rw [z, kts_self F] at e
        cases e
      · exact nm z)))
    (fun b o e hm => by
      obtain ⟨_, o', ho', hd⟩ := K.frames.mem hm
      rw [e] at ho'
      cases ho'
      exact hsm b o (F.keep b o e) hd)
  exact ⟨_, T.trans T₁, T₁, hsm.ns F.ns, S, by rw [T₁.size]; exact F.above⟩

theorem W_TryGo {body : List Stmt} {x : Str} {b₀ : Stmt} {suite : List Stmt} {pos np hpos : Pos} {Qn : Mp → HL → Prop} {Qr : Value → Mp → HL → Prop} (O : Ok C c n)
    (ex : nsIn (Mine.kk C.w.params) mainGlobals "GoPanic" = some (some (.ref 71))) (hq : ktsIn (Mine.kk C.w.params) 71 "BaseException" = true)
    (hbody : WZ C c m H (execs body c.env) (SP (fun _ _ => False) Qr) P)
    (hcatch : ∀ dx m1 H1, P dx m1 H1 → ∀ g h tk ea oe E, KtsTurn c.fs c.h₀ g → Fr g c.L h (upd m1 x (.ref ea)) → Led g c h H1 → h.get? ea = some oe → oe.cls = .ref 71 → oe.dict = some dx → notCls oe = true →
      wpAny C.M (c.A.mark (some (.ref ea))) (execs (b₀ :: suite) c.env) (fun f s₄ => ∃ v g4 h4 tk4 m4 H4, f = .ret v ∧ KtsTurn c.fs c.h₀ g4 ∧ s₄ = C.sh h4 tk4 ∧ Fr g4 c.L h4 m4 ∧ Led g4 c h4 H4 ∧ ∀ m5, Qr v m5 H4) E (C.sh h tk))
    (hx : c.env.kindOf x = some .local) (hk : c.cs.kind = .function := by rfl) (hg : c.env.kindOf "GoPanic" = some .globalImplicit := by rfl) :
    W C c m H (exec (.Try body [.ExceptHandler (some (.Name "GoPanic" np)) (some x) (b₀ :: suite) hpos] [] [] pos) c.env) (SP Qn Qr) := fun g hh tk T F N => by
  refine wpAny_Try_except (hbody.run T F N (fun f g1 h1 tk1 m1 H1 T1 F1 N1 q => ?_) fun e s' R => ?_)
  · cases f with
    | next => exact q.elim
    | ret v => exact Po.in (Q := SP Qn Qr) (v := .ret v) T1 F1 N1 q
    | brk => exact q.elim
    | cont => exact q.elim
  · have key : ∀ (g1 G1 B : Heap) (ea dx : Addr) (m1 : Mp) (H1 : HL) (h2 : Heap) (tk1 : Nat), KtsTurn c.fs c.h₀ g1 → Fr g1 c.L G1 m1 → G1.UpToSlots h2 →
        (∀ b o, G1.get? b = some o → b ∉ (c.env :: c.outer).filterMap (·.frame) → B.get? b = some o) → (∀ q ∈ H1, B.get? q.1 = some q.2 ∧ G1.get? q.1 = none) → (H1.map (·.1)).Nodup →
        FlyD B (c.env :: c.outer) ea (.ref 71) dx (rawInt c.L) h2 → P dx m1 H1 →
        wpAny C.M c.A (setFlight (.ref ea) none) (fun _ s₃ => wpAny C.M c.A (handleBy (.ref ea) c.env [.ExceptHandler (some (.Name "GoPanic" np)) (some x) (b₀ :: suite) hpos]) (Po C c (SP Qn Qr)) (fun _ _ => False) s₃) (fun _ _ => False) (C.sh h2 tk1) := by
      intro g1 G1 B ea dx m1 H1 h2 tk1 T1 F1 hsm hBG hn hnd hfl hp
      have hL : B.get? c.L = none := (hfl.2.2.1.mem (b := c.L) (by show c.L ∈ (c.env :: c.outer).filterMap (·.frame); simp)).1
      refine flightD (s := C.sh h2 tk1) hfl fun h5 x5 s5 => ?_
      obtain ⟨g5, T5, _, F5⟩ := groundT O T1 F1 hBG x5.1 (hsm.trans s5)
      obtain ⟨nm, q', N', bs, bm, hdct, sn, sub, ab, col, dd, k0, k1, k2, k3, k5, newId, hC, hbase, _⟩ := kts_cls O.XB hq
      have hC5 := F5.keep _ _ ((O.B T5).stays _ _ hC)
      obtain ⟨oe, vs, T', oT, ts, he, ⟨hec, hed⟩, r⟩ := id x5.2.2.2
      refine wpAny_handleBy_cons (codeAny_handlers_test (nameX_K (s := C.sh h5 tk1) F5 (O.K T5) (topRead_of (O.T T5)) ex ?_ hk hg (by decide))) (by intro q; cases q)
      refine wpAny_excMatches_sub_self hC5 he hec hbase (codeAny_handlers_suite_as ?_)
      refine flightD (s := C.sh h5 tk1) x5 fun h6 x6 s6 => ?_
      obtain ⟨g6, T6, Tg, F6⟩ := groundT O T1 F1 hBG x6.1 ((hsm.trans s5).trans s6)
      obtain ⟨oe6, vs6, T6', oT6, ts6, he6, ⟨hec6, hed6⟩, hd6, r6⟩ := id x6.2.2.2
      have N6 : Led g6 c h6 H1 := ⟨fun q hq => ⟨x6.1 _ _ (hn q hq).1, (fun z => by have := (hn q hq).1; rw [z, hL] at this; cases this), Tg.none_ _ (kts_none F1.keep (hn q hq).2)⟩, hnd⟩
      have heL : ea ≠ c.L := fun z => by
        obtain ⟨oL, es, ep, hLL, hLd, _⟩ := F6.ns
        rw [← z, he6] at hLL
        cases hLL
        rw [hd6] at hLd
        cases hLd
      refine wpAny_storeName_local (s := C.sh h6 tk1) hx F6.ns (fun h7 hn7 hs7 => ?_) (by show (c.cs.kind == .class || (c.cs.kind == .module && c.L != mainGlobals)) = false; rw [hk]; rfl)
      refine wpAny_mono (hcatch dx m1 H1 hp g6 h7 (tk1 + 1) ea oe6 _ T6 (F6.set hn7 hs7) (N6.set hs7) ((hs7.2 _ heL).trans he6) hec6 hed6 (by unfold notCls; rw [hd6])) (fun f s4 q => ?_) fun _ _ q => q
      obtain ⟨v, g4, h4, tk4, m4, H4, rfl, T4, rfl, F4, N4, q⟩ := q
      have hp : (c.cs.kind == .class || (c.cs.kind == .module && c.L != mainGlobals)) = false := by rw [hk]; rfl
      refine wpAny_bind (wpAny_bindName (wpAny_storeName_local (s := C.sh h4 tk4) hx F4.ns (fun h8 hn8 hs8 => ?_) hp))
      have F8 := F4.set hn8 hs8
      unfold unbindBehindTheSuite
      refine wpAny_onRaise (wpAny_unbindName_local (s := C.sh h8 (tk4 + 1)) hx F8.ns (v := .none) (if_pos rfl) hp fun h9 u hn9 hs9 => ?_)
      exact Po.in (Q := SP Qn Qr) (v := .ret v) T4 (F8.set hn9 hs9) ((N4.set hs8).set hs9) (q _)
    obtain ⟨ea, dx, B, g1, G1, h, tk, m1, H1, rfl, T1, rfl, F1, hsm, hB, hBG, hn, hnd, hfl, hp⟩ := R
    exact noteD_next (s := C.sh h tk) (B := B) (env := c.env) (outer := c.outer) rfl rfl hfl fun h2 x2 s2 => key g1 G1 B ea dx m1 H1 h2 tk T1 F1 (hsm.trans s2) hBG hn hnd x2 hp
end
end
open PySem PySem.W PySem.Calls PySem.Spec PyProof.Rows
theorem cond_t {b : Bool} {P Q : Prop} (hb : b = true) (h : P) : (b = true → P) ∧ (b = false → Q) := ⟨fun _ => h, fun q => (by rw [hb] at q; cases q)⟩
theorem cond_f {b : Bool} {P Q : Prop} (hb : b = false) (h : Q) : (b = true → P) ∧ (b = false → Q) := ⟨fun q => (by rw [hb] at q; cases q), fun _ => h⟩
theorem W.q {C : Cst} {c : Fc} {α : Type} {m : Mp} {H : HL} {t : Sem α} {Q : α → Mp → HL → Prop} (h : let Q' := Q; W C c m H t Q') : W C c m H t Q := h
section
variable {C : Cst} {c : Fc} {m : Mp} {H : HL} {n : Nat}
theorem W_itemsL {pos p : Pos} {x : Str} {rest : List Expr} {v : Value} {Q : List Value → Mp → HL → Prop} (h : let Qk : List Value → Mp → HL → Prop := fun vs m2 H2 => Q (v :: vs) m2 H2; W C c m H (spliced (backTo pos (starEach rest c.env))) Qk) (hx : some .local = c.env.kindOf x := by with_unfolding_all exact rfl) (hk : .function = c.cs.kind := by with_unfolding_all exact rfl) (hd : (x == ("__debug__" : Str)) = false := by with_unfolding_all decide) (he : starEach (.Name x p :: rest) c.env = (false, eval (.Name x p) c.env) :: starEach rest c.env := by with_unfolding_all exact rfl) (hv : m x = some v := by k_extra "lk") :
    W C c m H (spliced (backTo pos (starEach (.Name x p :: rest) c.env))) Q := W_items_cons (W_local h hx hk hd hv) he
theorem W_itemsI {pos p : Pos} {i : Int} {k : Nat} {rest : List Expr} {env : Env} {Q : List Value → Mp → HL → Prop} (h : ∀ t, let Qk : List Value → Mp → HL → Prop := fun vs m2 H2 => Q (.int i t :: vs) m2 H2; W C c m H (spliced (backTo pos (starEach rest env))) Qk) (he : starEach (.Constant (.int i) k p :: rest) env = (false, eval (.Constant (.int i) k p) env) :: starEach rest env := by with_unfolding_all exact rfl) :
    W C c m H (spliced (backTo pos (starEach (.Constant (.int i) k p :: rest) env))) Q := W_items_cons (W_int h) he
theorem W_assignN {x : Str} {p' pos : Pos} {value : Expr} {Qn : Mp → HL → Prop} {Qr : Value → Mp → HL → Prop} (h : let Qk : Value → Mp → HL → Prop := fun v m1 H1 => Qn (upd m1 x v) H1; W C c m H (eval value c.env) Qk) (hs : swapsWith value (some (.Name x p')) pos.line c.env = pure false := by with_unfolding_all exact rfl) (hx : some .local = c.env.kindOf x := by with_unfolding_all exact rfl) (hk : .function = c.cs.kind := by with_unfolding_all exact rfl) : W C c m H (exec (.Assign [.Name x p'] value pos) c.env) (SP Qn Qr) :=
  W_Assign (h.mono fun _ _ _ q => W_store q hx hk) hs
theorem W_callG {f : Str} {p pos : Pos} {e' : Expr} {rest : List Expr} {fv : Value} {Q : Value → Mp → HL → Prop} (h : let Qk : List Value → Mp → HL → Prop := fun vs m1 H1 => W C c m1 H1 (call fv vs) Q; W C c m H (spliced (backTo pos (starEach (e' :: rest) c.env))) Qk) (hx : some .globalImplicit = c.env.kindOf f := by with_unfolding_all exact rfl) (hk : .function = c.cs.kind := by with_unfolding_all exact rfl) (hd : (f == ("__debug__" : Str)) = false := by with_unfolding_all decide) (he : starEach (e' :: rest) c.env = (false, eval e' c.env) :: starEach rest c.env := by with_unfolding_all exact rfl) (hp : (backTo pos (starEach rest c.env)).any (·.1) = false := by with_unfolding_all exact rfl) (O : Ok C c n := by assumption) (e : nsIn (Mine.kk C.w.params) mainGlobals f = some (some fv) := by with_unfolding_all k_is) (hkp : keepIn (Mine.kk C.w.params) fv = true := by with_unfolding_all k_is) :
    W C c m H (eval (.Call (.Name f p) (e' :: rest) [] pos) c.env) Q := W_CallName (W_glob (W_callK h he hp O hkp) hx hk hd O e)
theorem W_methL {x name : Str} {p ap pos : Pos} {e' : Expr} {rest : List Expr} {a Ca dx fa : Addr} {o : Obj} {f : Mp} {k : Nat} {Q : Value → Mp → HL → Prop} (h : let Qk : List Value → Mp → HL → Prop := fun vs m1 H1 => W C c m1 H1 (call (.ref fa) (.ref a :: vs)) Q; W C c m H (spliced (backTo pos (starEach (e' :: rest) c.env))) Qk) (hx : some .local = c.env.kindOf x := by with_unfolding_all exact rfl) (hk : .function = c.cs.kind := by with_unfolding_all exact rfl) (hd : (x == ("__debug__" : Str)) = false := by with_unfolding_all decide) (he : starEach (e' :: rest) c.env = (false, eval e' c.env) :: starEach rest c.env := by with_unfolding_all exact rfl) (hp : (backTo pos (starEach rest c.env)).any (·.1) = false := by with_unfolding_all exact rfl) (hM : eval (.Call (.Attribute (.Name x p) name ap) (e' :: rest) [] pos) c.env = (do
      let ov ← eval (.Name x p) c.env
      standAt ap.atName
      let (f, first) ← holding [ov] (getMethod ov name (do let i ← importBound (.Name x p) c.env; pure (i.getD true)))
      callWith pos f first (backTo pos (starEach (e' :: rest) c.env)) []) := by with_unfolding_all exact rfl) (hv : m x = some (.ref a) := by k_extra "lk") (O : Ok C c n := by assumption) (hm : (a, instObj Ca dx) ∈ H := by k_extra "mm") (P : Plain (KK C) Ca := by k_extra "pl") (hm2 : (dx, o) ∈ H := by k_extra "mm") (hf : Flds f k o := by assumption) (hn : f name = none := by k_extra "lk") (ha : findIn (Mine.kk C.w.params) (.ref Ca) name = some (some (.ref fa)) := by with_unfolding_all k_is) (ht : isFn (Mine.kk C.w.params) (.ref fa) = true := by with_unfolding_all k_is) (hkp : keepIn (Mine.kk C.w.params) (.ref fa) = true := by with_unfolding_all k_is) :
    W C c m H (eval (.Call (.Attribute (.Name x p) name ap) (e' :: rest) [] pos) c.env) Q :=
  W_Method (W_local (W_method (W_callK h he hp O hkp) O hm P hm2 hf hn ha ht) hx hk hd hv) hM
theorem W_attrL {x attr : Str} {p pos : Pos} {a Ca dx : Addr} {o : Obj} {f : Mp} {k : Nat} {v : Value} {Q : Value → Mp → HL → Prop} (h : Q v m H) (hx : some .local = c.env.kindOf x := by with_unfolding_all exact rfl) (hk : .function = c.cs.kind := by with_unfolding_all exact rfl) (hd : (x == ("__debug__" : Str)) = false := by with_unfolding_all decide) (he : eval (.Attribute (.Name x p) attr pos) c.env = (do
      let o ← eval (.Name x p) c.env
      standAt pos.atName
      let r ← holding [o] (getAttr o attr true)
      letTemporaryGo (.Name x p) o r
      pure r) := by with_unfolding_all exact rfl) (hv : m x = some (.ref a) := by k_extra "lk") (O : Ok C c n := by assumption) (hm : (a, instObj Ca dx) ∈ H := by k_extra "mm") (P : Plain (KK C) Ca := by k_extra "pl") (hm2 : (dx, o) ∈ H := by k_extra "mm") (hf : Flds f k o := by assumption) (hw : f attr = some v := by k_extra "lk") (ha : findIn (Mine.kk C.w.params) (.ref Ca) attr = some none := by with_unfolding_all k_is) (hi : handedIn v = true := by with_unfolding_all exact rfl) : W C c m H (eval (.Attribute (.Name x p) attr pos) c.env) Q := W_Attribute (W_local (W_getAttr h O hm P hm2 hf hw ha hi) hx hk hd hv) he
theorem W_tupL {x : Str} {p kp pos : Pos} {i : Int} {k : Nat} {a : Addr} {vs : List Value} {j : Nat} {v : Value} {Q : Value → Mp → HL → Prop} (h : Q v m H) (hx : some .local = c.env.kindOf x := by with_unfolding_all exact rfl) (hk : .function = c.cs.kind := by with_unfolding_all exact rfl) (hd : (x == ("__debug__" : Str)) = false := by with_unfolding_all decide) (hlo : -(2 ^ 63) ≤ i := by with_unfolding_all decide) (hhi : i < 2 ^ 63 := by with_unfolding_all decide) (hv : m x = some (.ref a) := by k_extra "lk") (hm : (a, tupOf vs) ∈ H := by k_extra "mm") (hj : seqIndex? i vs.length = some j := by with_unfolding_all exact rfl) (hw : vs[j]? = some v := by with_unfolding_all exact rfl) (hs : ∀ t, subscripted (.Constant (.int i) k kp) false (.ref a) (.int i t) = operate [.ref a, .int i t] (getItem (.ref a) (.int i t)) := by with_unfolding_all exact fun _ => rfl) : W C c m H (eval (.Subscript (.Name x p) (.Constant (.int i) k kp) pos) c.env) Q :=
  W_Subscript (W_local (W_int fun t => W_tupItem h hm hj hw hlo hhi (hs t)) hx hk hd hv)
theorem W_isNoneR {x : Str} {p p2 p3 : Pos} {k : Nat} {a : Addr} {whole : Sem Value} {Q : Bool → Mp → HL → Prop} (h : Q false m H) (hx : some .local = c.env.kindOf x := by with_unfolding_all exact rfl) (hk : .function = c.cs.kind := by with_unfolding_all exact rfl) (hd : (x == ("__debug__" : Str)) = false := by with_unfolding_all decide) (hb : behindInMarks .Is (.Constant .none k p2) = false := by with_unfolding_all exact rfl) (hv : m x = some (.ref a) := by k_extra "lk") : W C c m H (isTrue (.Compare (.Name x p) [.Is] [.Constant .none k p2] p3) c.env whole) Q := W_isTrue_Compare (W_local (W_none (W_is_ref_none (W_truthy_bool h))) hx hk hd hv) hb
theorem W_isNoneN {x : Str} {p p2 p3 : Pos} {k : Nat} {whole : Sem Value} {Q : Bool → Mp → HL → Prop} (h : Q true m H) (hx : some .local = c.env.kindOf x := by with_unfolding_all exact rfl) (hk : .function = c.cs.kind := by with_unfolding_all exact rfl) (hd : (x == ("__debug__" : Str)) = false := by with_unfolding_all decide) (hb : behindInMarks .Is (.Constant .none k p2) = false := by with_unfolding_all exact rfl) (hv : m x = some .none := by k_extra "lk") : W C c m H (isTrue (.Compare (.Name x p) [.Is] [.Constant .none k p2] p3) c.env whole) Q := W_isTrue_Compare (W_local (W_none (W_is_none_none (W_truthy_bool h))) hx hk hd hv) hb
end
theorem W.letE {C : Cst} {c : Fc} {m : Mp} {H : HL} {body : List Stmt} {Qn : Mp → HL → Prop} {Qr : Value → Mp → HL → Prop} (h : let c' := c; let n' := Qn; let r' := Qr; W C c' m H (execs body c'.env) (SP n' r')) : W C c m H (execs body c.env) (SP Qn Qr) := h
theorem W_consQ {C : Cst} {c : Fc} {m : Mp} {H : HL} {env : Env} {st : Stmt} {rest : List Stmt} {Qn : Mp → HL → Prop} {Qr : Value → Mp → HL → Prop}
    (h : let m' := m; let H' := H; let n' := fun (m1 : Mp) (H1 : HL) => W C c m1 H1 (execs rest env) (SP Qn Qr); W C c m' H' (exec st env) (SP n' Qr)) : W C c m H (execs (st :: rest) env) (SP Qn Qr) := W_cons h
theorem W_consL {C : Cst} {c : Fc} {m : Mp} {H : HL} {env : Env} {st : Stmt} {rest : List Stmt} {Qn : Mp → HL → Prop} {Qr : Value → Mp → HL → Prop}
    (h : let m' := m; let H' := H; W C c m' H' (exec st env) (SP (fun m1 H1 => W C c m1 H1 (execs rest env) (SP Qn Qr)) Qr)) : W C c m H (execs (st :: rest) env) (SP Qn Qr) := W_cons h
theorem WX.letE {C : Cst} {c : Fc} {m : Mp} {H : HL} {body : List Stmt} {Qn : Mp → HL → Prop} {Qr : Value → Mp → HL → Prop} {P : Addr → Mp → HL → Prop} (h : let c' := c; let n' := Qn; let r' := Qr; let P' := P; WX C c' m H (execs body c'.env) (SP n' r') P') : WX C c m H (execs body c.env) (SP Qn Qr) P := h
section
variable {C : Cst} {c : Fc} {m : Mp} {H : HL} {n : Nat}
theorem w_lstItem {value slice : Expr} {a : Addr} {vs : List Value} {e : Nat} {k : Int} {u : Tok} {v : Value} {Q : Value → Mp → HL → Prop} (h : Q v m H) (h0 : 0 ≤ k := by with_unfolding_all decide) (hhi : k < 2 ^ 63 := by with_unfolding_all decide) (hm : (a, lstOf vs e) ∈ H := by k_extra "mm") (hx : vs[k.toNat]? = some v := by with_unfolding_all exact rfl) (hs : subscripted slice false (.ref a) (.int k u) = operate [.ref a, .int k u] (getItem (.ref a) (.int k u)) := by with_unfolding_all exact rfl) :
    W C c m H (subscriptTail value slice (.ref a) (.int k u)) Q := W_lstItem hm h0 hx h hhi hs
theorem w_len {a : Addr} {vs : List Value} {e : Nat} {Q : Value → Mp → HL → Prop} (h : ∀ t, Q (.int vs.length t) m H) (hm : (a, lstOf vs e) ∈ H := by k_extra "mm") (hz : (vs.length : Int) < 2 ^ 63 := by with_unfolding_all exact Nat.le_of_ble_eq_true rfl) : W C c m H (call (.builtin "len") [.ref a]) Q := W_len hm h hz
theorem w_condt {b : Bool} {P Q : Prop} (h : P) (hb : b = true := by with_unfolding_all first | exact rfl | decide) : (b = true → P) ∧ (b = false → Q) := cond_t hb h
theorem w_condf {b : Bool} {P Q : Prop} (h : Q) (hb : b = false := by with_unfolding_all first | exact rfl | decide) : (b = true → P) ∧ (b = false → Q) := cond_f hb h
end
-- names looked up among the frame's names
local macro_rules | `(tactic| k_extra "lk") => `(tactic| first | with_reducible assumption | with_unfolding_all exact rfl | with_reducible exact upd_same | ((with_reducible refine upd_ne (by decide) ?_); k_extra "lk"))
-- an entry of the ledger
local macro_rules | `(tactic| k_extra "mm") => `(tactic| first | with_reducible assumption | with_unfolding_all first | exact List.Mem.head _ | (refine List.mem_cons_of_mem _ ?_; k_extra "mm") | (refine List.mem_append_left _ ?_; k_extra "mm") | (refine List.mem_append_right _ ?_; k_extra "mm"))
-- an entry changed in place
local macro_rules | `(tactic| k_extra "at") => `(tactic| first | with_reducible assumption | exact At.head | (refine At.tail ?_; k_extra "at") | (refine At.appR ?_ _; k_extra "at") | (refine At.app _ ?_; k_extra "at"))
local macro_rules | `(tactic| k_extra "pl") => `(tactic| with_reducible assumption)
open PySem.W.X
theorem fm0 {a b : Int} (h : 0 < b) : 0 ≤ a.fmod b := by rw [Int.fmod_eq_emod_of_nonneg _ (by omega)]; exact Int.emod_nonneg _ (by omega)
theorem fm1 {a b : Int} (h : 0 < b) : a.fmod b < b := by rw [Int.fmod_eq_emod_of_nonneg _ (by omega)]; exact Int.emod_lt_of_pos _ h
noncomputable def IsSrc (o : Obj) : Prop := ∃ (x y : Int) (tx ty : Tok) (e : Nat), o = lstOf [.int x tx, .int y ty] e ∧ 0 ≤ y ∧ y < 2147483647
theorem sp_take {C : Cst} {c : Fc} {n : Nat} {m : Mp} {H : HL} (O : Ok C c (n + 1)) {src : Addr} {o : Obj} {g : Obj → HL} {top : Int} {tt : Tok} {Q : Value → Mp → HL → Prop}
    (ho : IsSrc o) (U : ∀ o', At src o o' H (g o')) (h0 : 0 < top) (h1 : top < 1000000)
    (h : ∀ v t o', IsSrc o' → 0 ≤ v → v < top → Q (.int v t) m (g o')) :
    W C c m H (call (.ref 347) [.ref src, .int top tt]) Q := by
  obtain ⟨x, y, tx, ty, e, rfl, hy0, hy1⟩ := ho
  have hm := (U emptyDict).mem
  refine' W_def (binds := [("source", .ref src), ("top", .int top tt)]) O ?ho ?hcd ?hb ?hl ?_ ?c1 ?c2 ?c3 ?c4
  case ho => k_is
  case hcd => k_is
  case hb => rfl
  case hl => rfl
  case c1 => rfl
  case c2 => rfl
  case c3 => rfl
  case c4 => decide
  intro dp un outer A₀ base h₀ L O1
  simp only [mOf, List.foldl]
  refine W.letE ?_
  intro cF QnF QrF
  (with_reducible refine W_consQ ?_; intro _ _ _; with_reducible refine W_If ?_; intro _; with_reducible refine W_isTrue_Compare ?_; intro _; with_reducible refine W_Subscript ?_; intro _; with_reducible refine W_local ?_; with_reducible refine W_int ?_; intro _; with_reducible refine w_lstItem ?_; with_reducible refine W_int ?_; intro _; with_reducible refine W_gt ?_; with_reducible refine W_truthy_bool ?_)
  refine ⟨fun hb => ?_, fun hb => ?_⟩
  · (with_reducible refine W_consQ ?_; intro _ _ _; with_reducible refine W_assignN ?_; intro _; with_reducible refine W_BinOp ?_; intro _; with_reducible refine W_CallName ?_; intro _; with_reducible refine W_bltn ?_; with_reducible refine W_callT ?_; intro _; with_reducible refine W_items_cons ?_; intro _; with_reducible refine W_Subscript ?_; intro _; with_reducible refine W_local ?_; with_reducible refine W_int ?_; intro _; with_reducible refine w_lstItem ?_; with_reducible refine W_items_nil ?_; with_reducible refine W_int_int ?_; with_reducible refine W_local ?_)
    ((with_reducible refine W_mod ?w0 ?_); (case w0 => omega))
    intro t1
    (with_reducible refine W_consQ ?_; intro _ _ _; with_reducible refine W_AssignItem ?_; intro _; with_reducible refine W_BinOp ?_; intro _; with_reducible refine W_Subscript ?_; intro _; with_reducible refine W_local ?_; with_reducible refine W_int ?_; intro _; with_reducible refine w_lstItem ?_; with_reducible refine W_local ?_)
    ((with_reducible refine W_div ?w0 ?w1 ?_); (case w0 => omega); (case w1 => exact (PyProof.noPylong_small (by omega))))
    intro t2
    (with_reducible refine W_local ?_; with_reducible refine W_int ?_; intro _)
    refine W_setItem (by decide) (by simp) (U (lstOf [.int (x.fdiv top) t2, .int y ty] e)) ?_
    (with_reducible refine W_consQ ?_; intro _ _ _; with_reducible refine W_Return ?_; with_reducible refine W_local ?_)
    exact Dr.id (h _ _ _ ⟨_, _, _, _, _, rfl, hy0, hy1⟩ (fm0 h0) (fm1 h0))
  · (with_reducible refine W_nil ?_; with_reducible refine W_consQ ?_; intro _ _ _; with_reducible refine W_AssignItem ?_; intro _; with_reducible refine W_BinOp ?_; intro _; with_reducible refine W_CallName ?_; intro _; with_reducible refine W_bltn ?_; with_reducible refine W_callT ?_; intro _; with_reducible refine W_items_cons ?_; intro _; with_reducible refine W_BinOp ?_; intro _; with_reducible refine W_BinOp ?_; intro _; with_reducible refine W_Subscript ?_; intro _; with_reducible refine W_local ?_; with_reducible refine W_int ?_; intro _; with_reducible refine w_lstItem ?_; with_reducible refine W_int ?_; intro _)
    ((with_reducible refine W_mul ?w0 ?_); (case w0 => exact (IntMulOk.of_right (by decide +kernel))))
    intro t1
    (with_reducible refine W_int ?_; intro _; with_reducible refine W_add ?_; intro _; with_reducible refine W_items_nil ?_; with_reducible refine W_int_int ?_; with_reducible refine W_int ?_; intro _)
    ((with_reducible refine W_mod ?w0 ?_); (case w0 => decide))
    intro t2
    (with_reducible refine W_local ?_; with_reducible refine W_int ?_; intro _)
    have hz0 : 0 ≤ (y * 39373 + 7).fmod 2147483647 := fm0 (by decide)
    have hz1 : (y * 39373 + 7).fmod 2147483647 < 2147483647 := fm1 (by decide)
    generalize (y * 39373 + 7).fmod 2147483647 = z at hz0 hz1 ⊢
    refine W_setItem (by decide) (by simp) (U (lstOf [.int x tx, .int z t2] e)) ?_
    have hm2 := (U (lstOf [.int x tx, .int z t2] e)).mem'
    (with_reducible refine W_consQ ?_; intro _ _ _; with_reducible refine W_Return ?_; with_reducible refine W_BinOp ?_; intro _; with_reducible refine W_CallName ?_; intro _; with_reducible refine W_bltn ?_; with_reducible refine W_callT ?_; intro _; with_reducible refine W_items_cons ?_; intro _; with_reducible refine W_BinOp ?_; intro _; with_reducible refine W_BinOp ?_; intro _; with_reducible refine W_CallName ?_; intro _; with_reducible refine W_bltn ?_; with_reducible refine W_callT ?_; intro _; with_reducible refine W_items_cons ?_; intro _; with_reducible refine W_BinOp ?_; intro _; with_reducible refine W_Subscript ?_; intro _; with_reducible refine W_local ?_; with_reducible refine W_int ?_; intro _; with_reducible refine w_lstItem ?_; with_reducible refine W_Subscript ?_; intro _; with_reducible refine W_local ?_; with_reducible refine W_int ?_; intro _; with_reducible refine w_lstItem ?_)
    ((with_reducible refine W_mul ?w0 ?_); (case w0 => exact (IntMulOk.of_left (intBits_le_64 (by omega) (by omega)))))
    intro t3
    (with_reducible refine W_items_nil ?_; with_reducible refine W_int_int ?_; with_reducible refine W_int ?_; intro _)
    ((with_reducible refine W_mod ?w0 ?_); (case w0 => decide))
    intro t4
    (with_reducible refine W_int ?_; intro _)
    ((with_reducible refine W_div ?w0 ?w1 ?_); (case w0 => decide); (case w1 => exact (PyProof.noPylong_small (by decide))))
    intro t5
    (with_reducible refine W_items_nil ?_; with_reducible refine W_int_int ?_; with_reducible refine W_local ?_)
    ((with_reducible refine W_mod ?w0 ?_); (case w0 => omega))
    intro t6
    exact Dr.id (h _ _ _ ⟨_, _, _, _, _, rfl, hz0, hz1⟩ (fm0 h0) (fm1 h0))
theorem plain275 (C : Cst) : Plain (Mine.kk C.w.params) 275 := by
  constructor
  · k_is
  · k_is
  · k_is
  · k_is
  · k_is
local macro_rules | `(tactic| k_extra "pl") => `(tactic| first | with_reducible assumption | exact plain275 _)
-- entering a def

theorem sp_inner {C : Cst} {c : Fc} {n : Nat} {m : Mp} {H : HL} (O : Ok C c (n + 1)) {p q : Addr} {x : Value} {k : Value} {j : Int} {t : Tok} {Q : Value → Mp → HL → Prop}
    (hp : (p, tupOf [x, k, .ref q]) ∈ H) (hq : (q, tupOf []) ∈ H)
    (h : ∀ a b, Q (.ref a) m ((a, tupOf [x, k, .ref b]) :: (b, tupOf [.int j t]) :: H)) : W C c m H (call (.ref 115) [.ref p, .int j t]) Q := by
  refine' W_def (binds := [("place", .ref p), ("step", .int j t)]) O ?ho ?hcd ?hb ?hl ?_ ?c1 ?c2 ?c3 ?c4
  ((try case hm => k_is); (try case hi => k_is); (try case hf => k_is); (case ho => k_is); (case hcd => k_is); (case hb => first | rfl | exact fun _ => rfl); (try case hl => first | rfl | exact fun _ => rfl); (try case hkd => rfl); (try case hnd => decide); (try case eL => rfl); (try case eC => rfl); (case c1 => rfl); (case c2 => rfl); (case c3 => rfl); (try case c4 => decide); intros; (try simp only [mOf, List.foldl]); (first | (refine W.letE ?_; intro _ _ _) | (refine WX.letE ?_; intro _ _ _ _)))
  (with_reducible refine W_consQ ?_; intro _ _ _; with_reducible refine W_Return ?_; with_reducible refine W_Tuple ?_; intro _; with_reducible refine W_items_cons ?_; intro _; with_reducible refine W_tupL ?_; with_reducible refine W_items_cons ?_; intro _; with_reducible refine W_tupL ?_; with_reducible refine W_items_cons ?_; intro _; with_reducible refine W_BinOp ?_; intro _; with_reducible refine W_tupL ?_; with_reducible refine W_Tuple ?_; intro _; with_reducible refine W_itemsL ?_; intro _; with_reducible refine W_items_nil ?_; with_reducible refine W_newTuple ?_; intro _)
  refine W_addTup0 (ws := [.int j t]) (by k_extra "mm") (by k_extra "mm") ?_
  (with_reducible refine W_items_nil ?_; with_reducible refine W_newTuple ?_; intro _)
  exact Dr.id (h _ _)

theorem sp_partAlong {C : Cst} {c : Fc} {n : Nat} {m : Mp} {H : HL} (O : Ok C c (n + 1)) {v : Value} {q : Addr} {Q : Value → Mp → HL → Prop}
    (hq : (q, tupOf []) ∈ H) (h : Q v m H) : W C c m H (call (.ref 101) [v, .ref q]) Q := by
  refine' W_def (binds := [("value", v), ("steps", .ref q)]) O ?ho ?hcd ?hb ?hl ?_ ?c1 ?c2 ?c3 ?c4
  ((try case hm => k_is); (try case hi => k_is); (try case hf => k_is); (case ho => k_is); (case hcd => k_is); (case hb => first | rfl | exact fun _ => rfl); (try case hl => first | rfl | exact fun _ => rfl); (try case hkd => rfl); (try case hnd => decide); (try case eL => rfl); (try case eC => rfl); (case c1 => rfl); (case c2 => rfl); (case c3 => rfl); (try case c4 => decide); intros; (try simp only [mOf, List.foldl]); (first | (refine W.letE ?_; intro _ _ _) | (refine WX.letE ?_; intro _ _ _ _)))
  with_reducible refine W_cons ?_
  refine W_For ?_
  (with_reducible refine W_local ?_)
  refine W_iter_tuple (by k_extra "mm") (fun it X hX => ?_)
  refine ⟨_, _, _, _, it, X, H, fun _ m' H' => m' = _ ∧ H' = H, ⟨rfl, It_tuple rfl, .rfl, hX, hq, rfl, rfl⟩, fun i v m H X hi => absurd hi (Nat.not_lt_zero _), ?_⟩
  rintro m' H' _ ⟨rfl, rfl⟩
  (with_reducible refine W_consQ ?_; intro _ _ _; with_reducible refine W_Return ?_; with_reducible refine W_local ?_)
  exact Dr.id h

theorem eqEmptyTup {C : Cst} {c : Fc} {H : HL} {m : Mp} {n : Nat} (O : Ok C c (n + 1)) {p q : Addr} {Q : Value → Mp → HL → Prop} (hp : (p, tupOf []) ∈ H) (hq : (q, tupOf []) ∈ H) (h : Q (.bool true) m H) : W C c m H (compareOp .Eq (.ref p) (.ref q)) Q := fun _ _ _ T F N =>
  SeqAt.eq_tupleAt (e := fun _ => true) ⟨_, N.get hp, rfl, 0, rfl⟩ ⟨_, N.get hq, rfl, 0, rfl⟩ (by have := O.hu; show c.un < cLine; omega) (fun j h1 _ => absurd h1 (by simp)) (Po.in T F N h)

theorem sp_withPart {C : Cst} {c : Fc} {n : Nat} {m : Mp} {H : HL} (O : Ok C c (n + 2)) {v x : Value} {q : Addr} {Q : Value → Mp → HL → Prop}
    (hq : (q, tupOf []) ∈ H) (h : Q x m H) : W C c m H (call (.ref 108) [v, .ref q, x]) Q := by
  refine' W_def (n := n + 1) (binds := [("value", v), ("steps", .ref q), ("part", x)]) O ?ho ?hcd ?hb ?hl ?_ ?c1 ?c2 ?c3 ?c4
  ((try case hm => k_is); (try case hi => k_is); (try case hf => k_is); (case ho => k_is); (case hcd => k_is); (case hb => first | rfl | exact fun _ => rfl); (try case hl => first | rfl | exact fun _ => rfl); (try case hkd => rfl); (try case hnd => decide); (try case eL => rfl); (try case eC => rfl); (case c1 => rfl); (case c2 => rfl); (case c3 => rfl); (try case c4 => decide); intros; (try simp only [mOf, List.foldl]); (first | (refine W.letE ?_; intro _ _ _) | (refine WX.letE ?_; intro _ _ _ _)))
  (with_reducible refine W_consQ ?_; intro _ _ _; with_reducible refine W_If ?_; intro _; with_reducible refine W_isTrue_Compare ?_; intro _; with_reducible refine W_local ?_; with_reducible refine W_Tuple ?_; intro _; with_reducible refine W_items_nil ?_; with_reducible refine W_newTuple ?_; intro _)
  refine eqEmptyTup (by assumption) (by k_extra "mm") (by k_extra "mm") ?_
  (with_reducible refine W_truthy_bool ?_; with_reducible refine w_condt ?_; with_reducible refine W_consQ ?_; intro _ _ _; with_reducible refine W_Return ?_; with_reducible refine W_local ?_)
  exact ⟨_, Le.rfl.drop, h⟩
inductive RowsAt : List Addr → List (List Int) → HL → Prop
  | nil : RowsAt [] [] []
  | cons {a as xs R A vs e} : IntsAre vs xs → RowsAt as R A → RowsAt (a :: as) (xs :: R) ((a, lstOf vs e) :: A)
theorem RowsAt.len {as : List Addr} {R : List (List Int)} {A : HL} (h : RowsAt as R A) : as.length = R.length := by
  induction h with
  | nil => rfl
  | cons _ _ ih => simp [ih]
theorem RowsAt.at {as : List Addr} {R : List (List Int)} {A : HL} (h : RowsAt as R A) : ∀ {k : Nat} {xs : List Int}, R[k]? = some xs →
    ∃ a vs e, as[k]? = some a ∧ IntsAre vs xs ∧ (a, lstOf vs e) ∈ A ∧ ∀ vs' e' xs', IntsAre vs' xs' → ∃ A', At a (lstOf vs e) (lstOf vs' e') A A' ∧ RowsAt as (R.set k xs') A' := by
  induction h with
  | nil => intro k xs h; simp at h
  | @cons a as xs R A vs e hi hr ih =>
    intro k ys h
    cases k with
    | zero =>
      simp at h; subst h
      exact ⟨a, vs, e, rfl, hi, .head _, fun vs' e' xs' h' => ⟨_, .head, .cons h' hr⟩⟩
    | succ k =>
      obtain ⟨b, ws, e', h1, h2, h3, h4⟩ := ih (k := k) (xs := ys) (by simpa using h)
      refine ⟨b, ws, e', by simpa using h1, h2, .tail _ h3, fun vs' e' xs' h' => ?_⟩
      obtain ⟨A', u, r⟩ := h4 vs' e' xs' h'
      exact ⟨_, .tail u, .cons hi r⟩
theorem RowsAt.snoc {as : List Addr} {R : List (List Int)} {A : HL} (h : RowsAt as R A) {a : Addr} {vs : List Value} {e : Nat} {xs : List Int} (hi : IntsAre vs xs) : RowsAt (as ++ [a]) (R ++ [xs]) (A ++ [(a, lstOf vs e)]) := by
  induction h with
  | nil => exact .cons hi .nil
  | cons h1 _ ih => exact .cons h1 ih
inductive RowsL (rl : Addr) (R : List (List Int)) (A : HL) : Prop
  | mk (as : List Addr) (e : Nat) (X : HL) (q : A = (rl, lstOf (as.map Value.ref) e) :: X) (r : RowsAt as R X) : RowsL rl R A
noncomputable abbrev storeF (mc : Value) (ca rl ma : Addr) : Mp := upd (upd (upd (upd emp "may_compare" mc) "cells" (.ref ca)) "rows" (.ref rl)) "maps" (.ref ma)
inductive StB (st : Addr) (R : List (List Int)) (A : HL) : Prop
  | mk (ds : Addr) (o : Obj) (mc : Value) (ca rl ma : Addr) (k : Nat) (X : HL) (q : A = (st, instObj 275 ds) :: (ds, o) :: X) (f : Flds (storeF mc ca rl ma) k o) (r : RowsL rl R X) : StB st R A
inductive SlC (k b l r : Nat) (v : Value) (F : HL) : Prop
  | mk (a p q : Addr) (t1 t2 t3 t4 t5 t6 : Tok) (e : v = .ref a) (h1 : (a, tupOf [.str "slice" t1, .ref p, .int b t2, .int l t3, .int r t4]) ∈ F) (h2 : (p, tupOf [.str "row" t5, .int k t6, .ref q]) ∈ F) (h3 : (q, tupOf []) ∈ F) : SlC k b l r v F
noncomputable def SlV (w : Option (Nat × Nat × Nat × Nat)) (v : Value) (F : HL) : Prop := match w with
  | none => v = .none
  | some (k, b, l, r) => SlC k b l r v F
theorem SlV.sub {w : Option (Nat × Nat × Nat × Nat)} {v : Value} {F F' : HL} (h : SlV w v F) (s : ∀ p ∈ F, p ∈ F') : SlV w v F' := by
  cases w with
  | none => exact h
  | some w =>
    obtain ⟨k, b, l, r⟩ := w
    obtain ⟨a, p, q, t1, t2, t3, t4, t5, t6, h1, h2, h3, h4⟩ := h
    exact ⟨a, p, q, t1, t2, t3, t4, t5, t6, h1, s _ h2, s _ h3, s _ h4⟩
inductive PlV (k j : Nat) (v : Value) (F : HL) : Prop
  | mk (a q : Addr) (t1 t2 t3 : Tok) (e : v = .ref a) (h1 : (a, tupOf [.str "row" t1, .int k t2, .ref q]) ∈ F) (h2 : (q, tupOf [.int j t3]) ∈ F) : PlV k j v F
theorem PlV.sub {k j : Nat} {v : Value} {F F' : HL} (h : PlV k j v F) (s : ∀ p ∈ F, p ∈ F') : PlV k j v F' := by
  obtain ⟨a, q, t1, t2, t3, h1, h2, h3⟩ := h
  exact ⟨a, q, t1, t2, t3, h1, s _ h2, s _ h3⟩
theorem get_map_ref {as : List Addr} {k : Nat} {a : Addr} (h : as[k]? = some a) : (as.map Value.ref)[k]? = some (.ref a) := by simp [h]
theorem get_map_ref' {as : List Addr} {k : Nat} {a : Addr} (h : as[k]? = some a) : (as.map Value.ref)[((k : Nat) : Int).toNat]? = some (.ref a) := by rw [Int.toNat_natCast]; exact get_map_ref h
theorem get_int' {vs : List Value} {k : Nat} {a : Value} (h : vs[k]? = some a) : vs[((k : Nat) : Int).toNat]? = some a := by rw [Int.toNat_natCast]; exact h
theorem ints_get {vs : List Value} {xs : List Int} (h : IntsAre vs xs) : ∀ {j : Nat} {x : Int}, xs[j]? = some x → ∃ t, vs[j]? = some (.int x t) := by
  induction h with
  | nil => intro j x h; simp at h
  | cons n t _ ih =>
    intro j x h
    cases j with
    | zero => simp at h; subst h; exact ⟨t, rfl⟩
    | succ j => simpa using ih (by simpa using h)
theorem ints_set {vs : List Value} {xs : List Int} (h : IntsAre vs xs) : ∀ {j : Nat} {x : Int} {t : Tok}, IntsAre (vs.set j (.int x t)) (xs.set j x) := by
  induction h with
  | nil => intro j x t; exact .nil
  | cons n t h' ih =>
    intro j x u
    cases j with
    | zero => exact .cons x u h'
    | succ j => exact .cons n t ih
theorem sp_load {C : Cst} {c : Fc} {n : Nat} {m : Mp} {H A F : HL} (O : Ok C c (n + 2)) {st : Addr} {R : List (List Int)} {k j : Nat} {v : Value} {xs : List Int} {x : Int} {Q : Value → Mp → HL → Prop}
    (hp : Pk A H F) (hS : StB st R A) (hv : PlV k j v F) (hk : R[k]? = some xs) (hj : xs[j]? = some x) (hkb : (k : Int) < 2 ^ 63) (hjb : (j : Int) < 2 ^ 63)
    (h : ∀ t, Q (.int x t) m (A ++ F)) : W C c m H (call (.ref 190) [.ref st, v]) Q := by
  obtain ⟨ds, o, mc, ca, rl, ma, kk, X, rfl, hf, as, e, Y, rfl, hr⟩ := hS
  obtain ⟨a, q, t1, t2, t3, rfl, ha, hq⟩ := hv
  obtain ⟨ra, vs, e', h1, h2, h3, -⟩ := hr.at hk
  obtain ⟨tx, h4⟩ := ints_get h2 hj
  refine W.le hp.le ?_
  refine' W_def (n := n + 1) (binds := [("self", .ref st), ("place", .ref a)]) O ?ho ?hcd ?hb ?hl ?_ ?c1 ?c2 ?c3 ?c4
  ((try case hm => k_is); (try case hi => k_is); (try case hf => k_is); (case ho => k_is); (case hcd => k_is); (case hb => first | rfl | exact fun _ => rfl); (try case hl => first | rfl | exact fun _ => rfl); (try case hkd => rfl); (try case hnd => decide); (try case eL => rfl); (try case eC => rfl); (case c1 => rfl); (case c2 => rfl); (case c3 => rfl); (try case c4 => decide); intros; (try simp only [mOf, List.foldl]); (first | (refine W.letE ?_; intro _ _ _) | (refine WX.letE ?_; intro _ _ _ _)))
  (with_reducible refine W_consQ ?_; intro _ _ _; with_reducible refine W_AssignTuple ?_; intro _; with_reducible refine W_local ?_; with_reducible refine W_unpack ?_; with_reducible refine W_eachName ?_; with_reducible refine W_store ?_; with_reducible refine W_eachName ?_; with_reducible refine W_store ?_; with_reducible refine W_eachName ?_; with_reducible refine W_store ?_; with_reducible refine W_eachNil ?_; with_reducible refine W_consQ ?_; intro _ _ _; with_reducible refine W_If ?_; intro _; with_reducible refine W_isTrue_Compare ?_; intro _; with_reducible refine W_local ?_; with_reducible refine W_str ?_; intro _; with_reducible refine W_eqStr ?_; with_reducible refine W_truthy_bool ?_; with_reducible refine w_condf ?_; with_reducible refine W_nil ?_; with_reducible refine W_consQ ?_; intro _ _ _; with_reducible refine W_Return ?_; with_reducible refine W_callG ?_; intro _; with_reducible refine W_items_cons ?_; intro _; with_reducible refine W_Subscript ?_; intro _; with_reducible refine W_Subscript ?_; intro _; with_reducible refine W_attrL ?_; with_reducible refine W_local ?_)
  refine W_lstItem (by k_extra "mm") (by omega) (get_map_ref' h1) ?_ (by omega)
  (with_reducible refine W_tupL ?_)
  refine W_lstItem (List.mem_append_left _ (.tail _ (.tail _ (.tail _ h3)))) (by omega) (get_int' h4) ?_ (by omega)
  (with_reducible refine W_items_cons ?_; intro _; with_reducible refine W_slice ?_; intro _; with_reducible refine W_local ?_; with_reducible refine W_part1 ?_; with_reducible refine W_int ?_; intro _; with_reducible refine W_part0 ?_)
  refine SliceX.tup 1 (by k_extra "mm") (by decide) (by exact Nat.le_refl _) (by exact Nat.le_of_ble_eq_true rfl) rfl fun D => ?_
  (with_reducible refine W_items_nil ?_)
  refine sp_partAlong (by assumption) (by k_extra "mm") ?_
  exact ⟨_, Le.rfl.drop, h _⟩
theorem W_setItemN {C : Cst} {c : Fc} {m : Mp} {H : HL} {a : Addr} {vs : List Value} {e j : Nat} {t : Tok} {v : Value} {H' : HL} {Q : Unit → Mp → HL → Prop} (hn : j < vs.length) (U : At a (lstOf vs e) (lstOf (vs.set j v) e) H H') (hhi : (j : Int) < 2 ^ 63) (h : Q () m H') :
    W C c m H (setItem (.ref a) (.int (j : Int) t) v) Q := W_setItem (vs := vs) (by omega) (by omega) (by rw [Int.toNat_natCast]; exact U) h hhi
theorem sp_store {C : Cst} {c : Fc} {n : Nat} {m : Mp} {H A F : HL} (O : Ok C c (n + 3)) {st : Addr} {R : List (List Int)} {k j : Nat} {v : Value} {xs : List Int} {x y : Int} {ty : Tok} {Q : Value → Mp → HL → Prop}
    (hp : Pk A H F) (hS : StB st R A) (hv : PlV k j v F) (hk : R[k]? = some xs) (hj : xs[j]? = some x) (hkb : (k : Int) < 2 ^ 63) (hjb : (j : Int) < 2 ^ 63)
    (h : ∀ A', StB st (R.set k (xs.set j y)) A' → Q .none m (A' ++ F)) : W C c m H (call (.ref 197) [.ref st, v, .int y ty]) Q := by
  obtain ⟨ds, o, mc, ca, rl, ma, kk, X, rfl, hf, as, e, Y, rfl, hr⟩ := hS
  obtain ⟨a, q, t1, t2, t3, rfl, ha, hq⟩ := hv
  obtain ⟨ra, vs, e', h1, h2, h3, h5⟩ := hr.at hk
  obtain ⟨tx, h4⟩ := ints_get h2 hj
  obtain ⟨A', u, hr'⟩ := h5 (vs.set j (.int y ty)) e' (xs.set j y) (ints_set h2)
  refine W.le hp.le ?_
  refine' W_def (n := n + 2) (binds := [("self", .ref st), ("place", .ref a), ("value", .int y ty)]) O ?ho ?hcd ?hb ?hl ?_ ?c1 ?c2 ?c3 ?c4
  ((try case hm => k_is); (try case hi => k_is); (try case hf => k_is); (case ho => k_is); (case hcd => k_is); (case hb => first | rfl | exact fun _ => rfl); (try case hl => first | rfl | exact fun _ => rfl); (try case hkd => rfl); (try case hnd => decide); (try case eL => rfl); (try case eC => rfl); (case c1 => rfl); (case c2 => rfl); (case c3 => rfl); (try case c4 => decide); intros; (try simp only [mOf, List.foldl]); (first | (refine W.letE ?_; intro _ _ _) | (refine WX.letE ?_; intro _ _ _ _)))
  (with_reducible refine W_consQ ?_; intro _ _ _; with_reducible refine W_AssignTuple ?_; intro _; with_reducible refine W_local ?_; with_reducible refine W_unpack ?_; with_reducible refine W_eachName ?_; with_reducible refine W_store ?_; with_reducible refine W_eachName ?_; with_reducible refine W_store ?_; with_reducible refine W_eachName ?_; with_reducible refine W_store ?_; with_reducible refine W_eachNil ?_; with_reducible refine W_consQ ?_; intro _ _ _; with_reducible refine W_If ?_; intro _; with_reducible refine W_isTrue_Compare ?_; intro _; with_reducible refine W_local ?_; with_reducible refine W_str ?_; intro _; with_reducible refine W_eqStr ?_; with_reducible refine W_truthy_bool ?_; with_reducible refine w_condf ?_; with_reducible refine W_consQ ?_; intro _ _ _; with_reducible refine W_assignN ?_; intro _; with_reducible refine W_Subscript ?_; intro _; with_reducible refine W_attrL ?_; with_reducible refine W_local ?_)
  refine W_lstItem (by k_extra "mm") (by omega) (get_map_ref' h1) ?_ (by omega)
  (with_reducible refine W_consQ ?_; intro _ _ _; with_reducible refine W_AssignItem ?_; intro _; with_reducible refine W_callG ?_; intro _; with_reducible refine W_items_cons ?_; intro _; with_reducible refine W_Subscript ?_; intro _; with_reducible refine W_local ?_; with_reducible refine W_tupL ?_)
  refine W_lstItem (List.mem_append_left _ (.tail _ (.tail _ (.tail _ h3)))) (by omega) (get_int' h4) ?_ (by omega)
  (with_reducible refine W_items_cons ?_; intro _; with_reducible refine W_slice ?_; intro _; with_reducible refine W_local ?_; with_reducible refine W_part1 ?_; with_reducible refine W_int ?_; intro _; with_reducible refine W_part0 ?_)
  refine SliceX.tup 1 (by k_extra "mm") (by decide) (by exact Nat.le_refl _) (by exact Nat.le_of_ble_eq_true rfl) rfl fun D => ?_
  (with_reducible refine W_itemsL ?_; intro _; with_reducible refine W_items_nil ?_)
  refine sp_withPart (by assumption) (by k_extra "mm") ?_
  (with_reducible refine W_local ?_; with_reducible refine W_tupL ?_)
  have hlt : j < vs.length := by have := (List.getElem?_eq_some_iff.mp h4).1; exact this
  refine W_setItemN (vs := vs) hlt (.tail (At.appR (.tail (.tail (.tail u))) _)) (by omega) ?_
  (with_reducible refine W_nil ?_; with_reducible refine W_nil ?_)
  exact ⟨_, Le.rfl.drop, h _ ⟨ds, o, mc, ca, rl, ma, kk, _, rfl, hf, as, e, _, rfl, hr'⟩⟩
theorem Le_move {p : Addr × Obj} (A Y F : HL) : Le ((A ++ (Y ++ [p])) ++ F) (p :: ((A ++ Y) ++ F)) := by
  refine Le.of_perm ?_
  rw [← List.append_assoc A Y [p], List.append_assoc (A ++ Y) [p] F]
  exact List.perm_middle
theorem sp_newRow {C : Cst} {c : Fc} {n : Nat} {m : Mp} {H A F : HL} (O : Ok C c (n + 1)) {st l : Addr} {R : List (List Int)} {vs : List Value} {e : Nat} {xs : List Int} {Q : Value → Mp → HL → Prop}
    (hp : Pk A H F) (hS : StB st R A) (hl : (l, lstOf vs e) ∈ F) (hi : IntsAre vs xs) (hR : R.length ≤ 1000) (hx : xs.length ≤ 2000000)
    (h : ∀ A' t, StB st (R ++ [xs]) A' → Q (.int R.length t) m (A' ++ F)) : W C c m H (call (.ref 183) [.ref st, .ref l]) Q := by
  obtain ⟨ds, o, mc, ca, rl, ma, kk, X, rfl, hf, as, el, Y, rfl, hr⟩ := hS
  have hlen := hr.len
  have hvl := hi.length
  refine W.le hp.le ?_
  refine' W_def (n := n) (binds := [("self", .ref st), ("values", .ref l)]) O ?ho ?hcd ?hb ?hl ?_ ?c1 ?c2 ?c3 ?c4
  ((try case hm => k_is); (try case hi => k_is); (try case hf => k_is); (case ho => k_is); (case hcd => k_is); (case hb => first | rfl | exact fun _ => rfl); (try case hl => first | rfl | exact fun _ => rfl); (try case hkd => rfl); (try case hnd => decide); (try case eL => rfl); (try case eC => rfl); (case c1 => rfl); (case c2 => rfl); (case c3 => rfl); (try case c4 => decide); intros; (try simp only [mOf, List.foldl]); (first | (refine W.letE ?_; intro _ _ _) | (refine WX.letE ?_; intro _ _ _ _)))
  (with_reducible refine W_consQ ?_; intro _ _ _; with_reducible refine W_Expr ?_; intro _; with_reducible refine W_Method ?_; intro _; with_reducible refine W_attrL ?_; with_reducible refine W_getAppend ?_; with_reducible refine W_callB ?_; intro _; with_reducible refine W_items_cons ?_; intro _; with_reducible refine W_CallName ?_; intro _; with_reducible refine W_bltn ?_; with_reducible refine W_callT ?_; intro _; with_reducible refine W_itemsL ?_; intro _; with_reducible refine W_items_nil ?_)
  refine W_listOf (List.mem_append_right _ hl) (fun D e' => ?_) (by simp only [sizeLine_eq]; omega)
  (with_reducible refine W_items_nil ?_)
  refine W_append (vs := as.map Value.ref) (.tail (At.appR (.tail (.tail .head)) _)) ?_ (by simp only [sizeLine_eq, List.length_map]; omega)
  (with_reducible refine W_consQ ?_; intro _ _ _; with_reducible refine W_Return ?_; with_reducible refine W_BinOp ?_; intro _; with_reducible refine W_CallName ?_; intro _; with_reducible refine W_bltn ?_; with_reducible refine W_callB0 ?_; intro _; with_reducible refine W_items_cons ?_; intro _; with_reducible refine W_attrL ?_; with_reducible refine W_items_nil ?_)
  refine W_len (vs := as.map Value.ref ++ [.ref D]) (by k_extra "mm") (fun t => ?_) (by simp only [List.length_append, List.length_map, List.length_singleton]; omega)
  (with_reducible refine W_int ?_; intro _; with_reducible refine W_sub ?_; intro _)
  rw [show (((as.map Value.ref ++ [Value.ref D]).length : Nat) : Int) - 1 = (R.length : Int) by simp only [List.length_append, List.length_map, List.length_singleton]; omega]
  have hS' : StB st (R ++ [xs]) ((st, instObj 275 ds) :: (ds, o) :: (rl, lstOf ((as ++ [D]).map Value.ref) (el + 1)) :: (Y ++ [(D, lstOf vs e')])) :=
    ⟨ds, o, mc, ca, rl, ma, kk, _, rfl, hf, as ++ [D], el + 1, _, rfl, hr.snoc hi⟩
  rw [List.map_append] at hS'
  exact ⟨_, Le_move [(st, instObj 275 ds), (ds, o), (rl, lstOf (as.map Value.ref ++ [.ref D]) (el + 1))] Y F, h _ _ hS'⟩
theorem sp_elem {C : Cst} {c : Fc} {n : Nat} {m : Mp} {H : HL} (O : Ok C c (n + 2)) {st : Value} {k b l r i : Nat} {v : Value} {ti : Tok} {Q : Value → Mp → HL → Prop}
    (hv : SlV (some (k, b, l, r)) v H) (hi : i < l)
    (h : ∀ v' X, PlV k (b + i) v' X → Q v' m (X ++ H)) : W C c m H (call (.ref 211) [st, v, .int i ti]) Q := by
  obtain ⟨a, p, q, t1, t2, t3, t4, t5, t6, rfl, ha, hp, hq⟩ := hv
  refine' W_def (n := n + 1) (binds := [("self", st), ("value", .ref a), ("index", .int i ti)]) O ?ho ?hcd ?hb ?hl ?_ ?c1 ?c2 ?c3 ?c4
  ((try case hm => k_is); (try case hi => k_is); (try case hf => k_is); (case ho => k_is); (case hcd => k_is); (case hb => first | rfl | exact fun _ => rfl); (try case hl => first | rfl | exact fun _ => rfl); (try case hkd => rfl); (try case hnd => decide); (try case eL => rfl); (try case eC => rfl); (case c1 => rfl); (case c2 => rfl); (case c3 => rfl); (try case c4 => decide); intros; (try simp only [mOf, List.foldl]); (first | (refine W.letE ?_; intro _ _ _) | (refine WX.letE ?_; intro _ _ _ _)))
  (with_reducible refine W_consQ ?_; intro _ _ _; with_reducible refine W_If ?_; intro _; with_reducible refine W_or ?_; intro _; with_reducible refine W_isNoneR ?_; with_reducible refine w_condf ?_; with_reducible refine W_or ?_; intro _; with_reducible refine W_isTrue_not ?_; intro _; with_reducible refine W_chain ?_; intro _; with_reducible refine W_int ?_; intro _; with_reducible refine W_link ?_; intro _; with_reducible refine W_local ?_; with_reducible refine W_le ?_; with_reducible refine W_truthy_bool ?_; with_reducible refine w_condt ?_; refine W_last' ?_; intro _; with_reducible refine W_tupL ?_; with_reducible refine W_lt ?_; with_reducible refine W_truthy_bool ?_)
  refine cond_f (by simp; omega) ?_
  (with_reducible refine W_or_nil ?_; with_reducible refine w_condf ?_; with_reducible refine W_nil ?_; with_reducible refine W_consQ ?_; intro _ _ _; with_reducible refine W_Return ?_; with_reducible refine W_callG ?_; intro _; with_reducible refine W_items_cons ?_; intro _; with_reducible refine W_tupL ?_; with_reducible refine W_items_cons ?_; intro _; with_reducible refine W_BinOp ?_; intro _; with_reducible refine W_tupL ?_; with_reducible refine W_local ?_; with_reducible refine W_add ?_; intro _; with_reducible refine W_items_nil ?_)
  refine sp_inner (by assumption) (by k_extra "mm") (by k_extra "mm") fun a' b' => ?_
  exact Dr.id (h _ [_, _] ⟨a', b', t5, t6, _, rfl, .head _, by rw [show ((b + i : Nat) : Int) = (b : Int) + i by omega]; exact .tail _ (.head _)⟩)
inductive Told (dx : Addr) (Q : Value → HL → Prop) (H : HL) : Prop
  | mk (o : Obj) (ff : Mp) (k : Nat) (pt : Addr) (v0 : Value) (v1 : Value) (v2 : Value) (q0 : (dx, o) ∈ H) (q1 : Flds ff k o) (q2 : ff "value" = some (.ref pt)) (q3 : (pt, tupOf [v0, v1, v2]) ∈ H) (q4 : ∀ a t, Q (.ref a) ((a, tupOf [.str "panic" t, v2]) :: H)) : Told dx Q H
theorem kts71 (C : Cst) : ktsIn (Mine.kk C.w.params) 71 "BaseException" = true := by kernel_rfl
theorem sub71 (C : Cst) : subIn (Mine.kk C.w.params) (.ref 71) (.type "BaseException") = some true := by kernel_rfl

theorem sp_heard {C : Cst} {c : Fc} {n : Nat} {m : Mp} {H : HL} (O : Ok C c (n + 1)) {f : Addr} {o : Obj} {fd : FuncData} {Q : Value → Mp → HL → Prop} (hm : (f, o) ∈ H) (hd : o.data = .func fd)
    (hcall : ∀ c' m', c'.dp = c.dp + 1 → c'.un = c.un + 3 → Ok C c' n → WZ C c' m' H (call (.ref f) []) (fun v _ H' => Q v m H') (fun dx _ H' => Told dx (fun v H'' => Q v m H'') H')) :
    W C c m H (call (.ref 361) [.ref f]) Q := by
  refine W.ofX (WZ.toX ?_)
  refine' WZ_def (binds := [("call", .ref f)]) O ?ho ?hcd ?hb ?hl ?_ ?c1 ?c2 ?c3 ?c4
  case ho => k_is
  case hcd => k_is
  case hb => rfl
  case hl => rfl
  case c1 => rfl
  case c2 => rfl
  case c3 => rfl
  case c4 => decide
  intro outer A₀ base h₀ L O1
  simp only [mOf, List.foldl]
  refine WX.of (W_cons ?_)
  refine' W_TryGo (P := fun dx _ H' => Told dx (fun v H'' => Q v m H'') H') O1 ?ex (kts71 C) ?_ ?_ ?hx
  case ex => k_is
  case hx => rfl
  · refine WZ_cons (WZ_Return (WZ_CallName ?_))
    (with_reducible refine W_local ?_)
    refine WZ_callF0 hm hd ?_
    exact (hcall _ _ rfl rfl O1).mono (fun _ _ _ q => Dr.id q) fun _ _ _ q => q
  · intro dx m1 H1 ht g h tk ea oe E T F N he hc hdx hn
    obtain ⟨o, ff, k, pt, v0, v1, v2, hm1, ⟨es, nn, rfl, hl, hr, hf⟩, hv, hpt, hQ⟩ := ht
    have X := (O1.K T).keeps F.keep
    refine wpAny_execs_cons (wpAny_Return_some (Tuple_ ?_))
    refine' wpAny_items_cons ?_ ?he1
    case he1 => rfl
    refine wpAny_Constant_str ?_
    refine' wpAny_items_cons ?_ ?he2
    case he2 => rfl
    refine Subscript_ ?_
    refine' Attribute_any_ ?_ ?he3
    case he3 => with_unfolding_all rfl
    refine' nameX_L F upd_same ?_ ?k1 ?k2 ?k3
    case k1 => rfl
    case k2 => rfl
    case k3 => decide
    have I : InstAt h ea oe 71 (some (dictOf es nn)) := ⟨he, hc, hn, by rw [hdx]; exact N.get hm1⟩
    have e1 : findIn (Mine.kk C.w.params) (.ref 71) "__getattribute__" = some (some (.builtin "BaseException.__getattribute__")) := by k_is
    have e2 : findIn (Mine.kk C.w.params) (.ref 71) "__getattr__" = some none := by k_is
    have e3 : hasDictIn (Mine.kk C.w.params) 71 = true := by k_is
    have e4 : findIn (Mine.kk C.w.params) (.ref 71) "value" = some none := by k_is
    refine getExc (s := C.sh h (tk + 1)) X I e1 e2 (sub71 C) (findObj_own e3 e4 rfl ((Flds.get hr (hf "value")).trans (by rw [hv]))) rfl ?_
    refine wpAny_Constant_int ?_
    refine kba_turn (value' := .Name "_" ⟨0, 0, 0, 0⟩) (fun _ => rfl) ?_
    refine' item_tupleL ?ht ?lo ?hi ?hj ?hx ?_ ?hs ?hg
    case ht => exact ⟨_, N.get hpt, rfl, 0, rfl⟩
    case lo => decide
    case hi => decide
    case hj => rfl
    case hx => rfl
    case hs => with_unfolding_all rfl
    case hg => exact fun _ => rfl
    refine wpAny_items_nil ?_
    refine wpAny_newObj_type ?_ (by exact Nat.le_of_ble_eq_true rfl)
    exact ⟨_, g, _, _, _, _, rfl, T, rfl, F.push _, N.push F _, fun _ => Dr.id (hQ _ _)⟩
noncomputable def xP (C : Cst) (h0 : Heap) (b : Value → Prop) (r : Value) (s' : Shared) : Prop :=
  ∃ h' tk' news e dx v0 v2 v3 v4 v5 sl es k pt w0 w1 w2, r = .ref e ∧ s' = C.sh h' tk' ∧ X.Mem h0 h' [] news ∧ (e, (⟨.ref 71, some dx, .fields #[v0, .none, v2, v3, v4, v5], sl⟩ : Obj)) ∈ news ∧
    (dx, ({ cls := .type "dict", data := .dict (Array.mk es) k } : Obj)) ∈ news ∧ es.any (·.refKey) = false ∧ (es.find? (·.key.isStr "value")).map (·.val) = some (.ref pt) ∧
    (pt, ({ cls := .type "tuple", data := .seq (Array.mk [w0, w1, w2]) } : Obj)) ∈ news ∧ b w2
local macro_rules | `(tactic| x_close) => `(tactic| (exact ⟨_, _, _, _, _, _, _, _, _, _, _, _, _, _, _, _, _, rfl, rfl, by assumption, by k_extra "xm", by k_extra "xm", by rfl, by rfl, by k_extra "xm", by k_extra "xb"⟩))
local macro_rules | `(tactic| k_extra "xm") => `(tactic| first | exact List.Mem.head _ | (refine List.Mem.tail _ ?_; k_extra "xm"))
local macro_rules | `(tactic| k_extra "xb") => `(tactic| (refine ⟨_, congrArg (fun z => Value.bytes z _) ?_⟩; kernel_rfl))
noncomputable def txPart : List UInt8 := [115, 108, 105, 99, 101, 32, 98, 111, 117, 110, 100, 115, 32, 111, 117, 116, 32, 111, 102, 32, 114, 97, 110, 103, 101]
noncomputable def txElem : List UInt8 := [105, 110, 100, 101, 120, 32, 111, 117, 116, 32, 111, 102, 32, 114, 97, 110, 103, 101]
noncomputable def txNil : List UInt8 := [97, 115, 115, 105, 103, 110, 109, 101, 110, 116, 32, 116, 111, 32, 101, 110, 116, 114, 121, 32, 105, 110, 32, 110, 105, 108, 32, 109, 97, 112]
theorem xpart (C : Cst) (p : Program) {env : Env} {outer : List Env} {E : Value → Shared → Prop} {t : Tok} (h₀ : Heap) (tk : Nat) (X : (Mine.kk C.w.params).In h₀) :
    wpAny (model p C.w) { handled := none, depth := 306, frames := some (env :: outer), guards := some [], units := 19 } (call (.ref 81) [.str (Str.ofString "slice bounds out of range") t]) (xP C h₀ fun w => ∃ t, w = .bytes txPart.toArray t) E (C.sh h₀ tk) := by
  x_run
theorem xelem (C : Cst) (p : Program) {env : Env} {outer : List Env} {E : Value → Shared → Prop} {t : Tok} (h₀ : Heap) (tk : Nat) (X : (Mine.kk C.w.params).In h₀) :
    wpAny (model p C.w) { handled := none, depth := 306, frames := some (env :: outer), guards := some [], units := 19 } (call (.ref 81) [.str (Str.ofString "index out of range") t]) (xP C h₀ fun w => ∃ t, w = .bytes txElem.toArray t) E (C.sh h₀ tk) := by
  x_run
theorem xnil (C : Cst) (p : Program) {env : Env} {outer : List Env} {E : Value → Shared → Prop} {t : Tok} (h₀ : Heap) (tk : Nat) (X : (Mine.kk C.w.params).In h₀) :
    wpAny (model p C.w) { handled := none, depth := 305, frames := some (env :: outer), guards := some [], units := 16 } (call (.ref 81) [.str (Str.ofString "assignment to entry in nil map") t]) (xP C h₀ fun w => ∃ t, w = .bytes txNil.toArray t) E (C.sh h₀ tk) := by
  x_run
theorem sp_panic {C : Cst} {c : Fc} {n : Nat} {m : Mp} {H : HL} (O : Ok C c n) {t : Tok} {x : Str} {bs : List UInt8} {Q : Value → Mp → HL → Prop}
    (hx : ∀ h₀ tk, (Mine.kk C.w.params).In h₀ → wpAny C.M c.A (call (.ref 81) [.str x t]) (xP C h₀ fun w => ∃ t, w = .bytes bs.toArray t) (fun _ _ => False) (C.sh h₀ tk))
    (h : ∀ e dx v0 v2 v3 v4 v5 sl H', (∀ R : Value → HL → Prop, (∀ a t1 t2 H2, (∀ p ∈ H, p ∈ H2) → R (.ref a) ((a, tupOf [.str "panic" t1, .bytes bs.toArray t2]) :: H2)) → Told dx R H') → (∀ p ∈ H, p ∈ H') →
      Q (.ref e) m ((e, (⟨.ref 71, some dx, .fields #[v0, .none, v2, v3, v4, v5], sl⟩ : Obj)) :: H')) : W C c m H (call (.ref 81) [.str x t]) Q := fun g hh tk T F N => by
  refine wpAny_mono (hx hh tk ((O.K T).keeps F.keep)) (fun r s' q => ?_) fun _ _ q => q.elim
  obtain ⟨h', tk', news, e, dx, v0, v2, v3, v4, v5, sl, es, k, pt, w0, w1, w2, rfl, rfl, D, he, hdx, hr, hv, hpt, tb, rfl⟩ := q
  have hk : ∀ b o, hh.get? b = some o → h'.get? b = some o := fun b o q => D.keep b o q (by simp [X.away])
  have F' := F.keeps hk
  have new : ∀ p ∈ news, h'.get? p.1 = some p.2 ∧ p.1 ≠ c.L ∧ g.get? p.1 = none ∧ ∀ q ∈ H, q.1 ≠ p.1 := fun p hp => by
    obtain ⟨a, b⟩ := D.nw p hp
    refine ⟨a, fun z => ?_, kts_none F.keep b, fun q hq z => ?_⟩
    · obtain ⟨oL, es, ep, hL, _⟩ := F.ns
      rw [z, hL] at b; cases b
    · have := (N.N q hq).1
      rw [z, b] at this; cases this
  have n1 := new _ he
  have n2 := new _ hdx
  have n3 := new _ hpt
  have d12 : e ≠ dx := fun z => by have := n1.1; rw [z, n2.1] at this; cases this
  have d13 : e ≠ pt := fun z => by have := n1.1; rw [z, n3.1] at this; cases this
  have d23 : dx ≠ pt := fun z => by have := n2.1; rw [z, n3.1] at this; simp at this
  have N' : Led g c h' ((e, (⟨.ref 71, some dx, .fields #[v0, .none, v2, v3, v4, v5], sl⟩ : Obj)) :: (dx, dictOf es k) :: (pt, ({ cls := .type "tuple", data := .seq (Array.mk [w0, w1, .bytes bs.toArray tb]) } : Obj)) :: H) := by
    refine ⟨fun p hp => ?_, ?_⟩
    · rcases List.mem_cons.mp hp with rfl | hp
      · exact ⟨n1.1, n1.2.1, n1.2.2.1⟩
      · rcases List.mem_cons.mp hp with rfl | hp
        · exact ⟨n2.1, n2.2.1, n2.2.2.1⟩
        · rcases List.mem_cons.mp hp with rfl | hp
          · exact ⟨n3.1, n3.2.1, n3.2.2.1⟩
          · have P := N.N p hp; exact ⟨hk _ _ P.1, P.2⟩
    · simp only [List.map_cons, List.nodup_cons, List.mem_cons, not_or]
      refine ⟨⟨d12, d13, fun q => ?_⟩, ⟨d23, fun q => ?_⟩, fun q => ?_, N.nd⟩
      · obtain ⟨p, hp, z⟩ := List.mem_map.mp q; exact n1.2.2.2 p hp z
      · obtain ⟨p, hp, z⟩ := List.mem_map.mp q; exact n2.2.2.2 p hp z
      · obtain ⟨p, hp, z⟩ := List.mem_map.mp q; exact n3.2.2.2 p hp z
  refine Po.in T F' N' (h e dx v0 v2 v3 v4 v5 sl _ (fun R hR => ?_) fun p hp => .tail _ (.tail _ hp))
  exact ⟨_, fun name => (es.find? (·.key.isStr name)).map (·.val), es.length, pt, w0, w1, _, .head _, ⟨es, k, rfl, Nat.le_refl _, hr, fun _ => rfl⟩, hv, .tail _ (.head _), fun a t => hR _ _ _ _ fun p hp => .tail _ (.tail _ hp)⟩

noncomputable def OptV (o : Option Nat) (v : Value) : Prop := match o with
  | none => v = .none
  | some x => ∃ t, v = .int (x : Int) t
noncomputable abbrev wLen (w : Option (Nat × Nat × Nat × Nat)) : Nat := match w with | none => 0 | some (_, _, l, _) => l
noncomputable abbrev wRoom (w : Option (Nat × Nat × Nat × Nat)) : Nat := match w with | none => 0 | some (_, _, _, r) => r
noncomputable def cutW (w : Option (Nat × Nat × Nat × Nat)) (b e l : Nat) : Option (Nat × Nat × Nat × Nat) := w.map fun w => (w.1, w.2.1 + b, e - b, l - b)
theorem W.cut {C : Cst} {c : Fc} {m : Mp} {H : HL} {t : Sem Value} {Q : Value → Mp → HL → Prop} (R : Value → Prop) (x : W C c m H t fun v m1 H1 => R v ∧ m1 = m ∧ H1 = H) (k : ∀ v, R v → Q v m H) : W C c m H t Q :=
  x.mono fun v m1 H1 q => by obtain ⟨q, rfl, rfl⟩ := q; exact k v q
theorem W_ifNone {C : Cst} {c : Fc} {m : Mp} {H : HL} {y : Str} {p1 p2 p3 p4 p5 : Pos} {k : Nat} {a : Expr} {o : Option Nat} {d : Nat} {vy : Value} {Q : Value → Mp → HL → Prop} (ho : OptV o vy) (hv : m y = some vy)
    (ha : W C c m H (eval a c.env) fun v m1 H1 => (∃ t, v = .int (d : Int) t) ∧ m1 = m ∧ H1 = H) (h : ∀ t, Q (.int ((o.getD d : Nat) : Int) t) m H)
    (hk : c.cs.kind = .function) (hx : c.env.kindOf y = some .local) (hd : (y == ("__debug__" : Str)) = false) :
    W C c m H (eval (.IfExp (.Compare (.Name y p1) [.Is] [.Constant .none k p2] p3) a (.Name y p4) p5) c.env) Q := by
  refine W.cut (fun v => ∃ t, v = .int ((o.getD d : Nat) : Int) t) ?_ fun v q => by obtain ⟨t, rfl⟩ := q; exact h t
  with_reducible refine W_IfExp ?_
  with_reducible refine W_isTrue_Compare ?_
  refine W_local ?_ hx.symm hk.symm hd hv
  with_reducible refine W_none ?_
  cases o with
  | none =>
    obtain rfl : vy = .none := ho
    refine W_is_none_none (W_truthy_bool (cond_t rfl ?_))
    exact ha
  | some x =>
    obtain ⟨t, rfl⟩ : ∃ t, vy = .int (x : Int) t := ho
    refine W_is_int_none (W_truthy_bool (cond_f rfl ?_))
    exact W_local ⟨⟨t, rfl⟩, rfl, rfl⟩ hx.symm hk.symm hd hv
theorem SP.mono {Qn Qn' : Mp → HL → Prop} {Qr Qr' : Value → Mp → HL → Prop} (h1 : ∀ m H, Qn m H → Qn' m H) (h2 : ∀ v m H, Qr v m H → Qr' v m H) : ∀ f m H, SP Qn Qr f m H → SP Qn' Qr' f m H
  | .next, _, _, q => h1 _ _ q
  | .ret _, _, _, q => h2 _ _ _ q
theorem WX_cutS {C : Cst} {c : Fc} {m : Mp} {H : HL} {env : Env} {st : Stmt} {rest : List Stmt} {Qn : Mp → HL → Prop} {Qr : Value → Mp → HL → Prop} {P : Addr → Mp → HL → Prop} (R : Mp → HL → Prop)
    (h : W C c m H (exec st env) (SP R fun _ _ _ => False)) (k : ∀ m1 H1, R m1 H1 → WX C c m1 H1 (execs rest env) (SP Qn Qr) P) : WX C c m H (execs (st :: rest) env) (SP Qn Qr) P :=
  WX_consW (h.mono (SP.mono k fun _ _ _ q => q.elim))
theorem W_cutS {C : Cst} {c : Fc} {m : Mp} {H : HL} {env : Env} {st : Stmt} {rest : List Stmt} {Qn : Mp → HL → Prop} {Qr : Value → Mp → HL → Prop} (R : Mp → HL → Prop)
    (h : W C c m H (exec st env) (SP R fun _ _ _ => False)) (k : ∀ m1 H1, R m1 H1 → W C c m1 H1 (execs rest env) (SP Qn Qr)) : W C c m H (execs (st :: rest) env) (SP Qn Qr) :=
  W_cons (h.mono (SP.mono k fun _ _ _ q => q.elim))
theorem WX_IfC {C : Cst} {c : Fc} {m : Mp} {H : HL} {env : Env} {P : Addr → Mp → HL → Prop} (R : Prop) {t : Expr} {b o : List Stmt} {pos : Pos} {Qn : Mp → HL → Prop} {Qr : Value → Mp → HL → Prop}
    (h : W C c m H (isTrue t env (eval t env)) fun x m1 H1 => (x = true ↔ R) ∧ m1 = m ∧ H1 = H) (h1 : R → WX C c m H (execs b env) (SP Qn Qr) P) (h2 : ¬ R → WX C c m H (execs o env) (SP Qn Qr) P) :
    WX C c m H (exec (.If t b o pos) env) (SP Qn Qr) P := WX_If (h.mono fun x m1 H1 q => by
  obtain ⟨q, rfl, rfl⟩ := q
  exact ⟨fun z => h1 (q.mp z), fun z => h2 fun r => by rw [q.mpr r] at z; cases z⟩)
theorem W_IfC {C : Cst} {c : Fc} {m : Mp} {H : HL} {env : Env} (R : Prop) {t : Expr} {b o : List Stmt} {pos : Pos} {Qn : Mp → HL → Prop} {Qr : Value → Mp → HL → Prop}
    (h : W C c m H (isTrue t env (eval t env)) fun x m1 H1 => (x = true ↔ R) ∧ m1 = m ∧ H1 = H) (h1 : R → W C c m H (execs b env) (SP Qn Qr)) (h2 : ¬ R → W C c m H (execs o env) (SP Qn Qr)) :
    W C c m H (exec (.If t b o pos) env) (SP Qn Qr) := W_If (h.mono fun x m1 H1 q => by
  obtain ⟨q, rfl, rfl⟩ := q
  exact ⟨fun z => h1 (q.mp z), fun z => h2 fun r => by rw [q.mpr r] at z; cases z⟩)
theorem SlV.of {k b l r : Nat} {bi li ri : Int} {a p q : Addr} {t1 t2 t3 t4 t5 t6 : Tok} {F : HL} (h1 : (a, tupOf [.str "slice" t1, .ref p, .int bi t2, .int li t3, .int ri t4]) ∈ F) (h2 : (p, tupOf [.str "row" t5, .int k t6, .ref q]) ∈ F) (h3 : (q, tupOf []) ∈ F)
    (eb : bi = b := by omega) (el : li = l := by omega) (er : ri = r := by omega) : SlV (some (k, b, l, r)) (.ref a) F := by
  subst eb el er
  exact ⟨a, p, q, t1, t2, t3, t4, t5, t6, rfl, h1, h2, h3⟩
theorem sp_partOf {C : Cst} {c : Fc} {n : Nat} {m : Mp} {H : HL} (O : Ok C c (n + 2)) (hdp : c.dp = 305) (hun : c.un = 16) {st : Value} {w : Option (Nat × Nat × Nat × Nat)} {v vlo vhi vmo : Value} {lo hi mo : Option Nat} {Q : Value → Mp → HL → Prop} {P : Addr → Mp → HL → Prop}
    (hv : SlV w v H) (h1 : OptV lo vlo) (h2 : OptV hi vhi) (h3 : OptV mo vmo)
    (hQ : lo.getD 0 ≤ hi.getD (wLen w) → hi.getD (wLen w) ≤ mo.getD (wRoom w) → mo.getD (wRoom w) ≤ wRoom w → ∀ v' X, SlV (cutW w (lo.getD 0) (hi.getD (wLen w)) (mo.getD (wRoom w))) v' (X ++ H) → Q v' m (X ++ H))
    (hE : ¬ (lo.getD 0 ≤ hi.getD (wLen w) ∧ hi.getD (wLen w) ≤ mo.getD (wRoom w) ∧ mo.getD (wRoom w) ≤ wRoom w) → ∀ dx H', (∀ R : Value → HL → Prop, (∀ a t1 t2 H2, (∀ p ∈ H, p ∈ H2) → R (.ref a) ((a, tupOf [.str "panic" t1, .bytes txPart.toArray t2]) :: H2)) → Told dx R H') → (∀ p ∈ H, p ∈ H') → P dx m H') :
    WZ C c m H (call (.ref 230) [st, v, vlo, vhi, vmo]) Q P := by
  refine' WZ_def (n := n + 1) (binds := [("self", st), ("value", v), ("low", vlo), ("high", vhi), ("most", vmo)]) O ?ho ?hcd ?hb ?hl ?_ ?c1 ?c2 ?c3 ?c4
  ((try case hm => k_is); (try case hi => k_is); (try case hf => k_is); (case ho => k_is); (case hcd => k_is); (case hb => first | rfl | exact fun _ => rfl); (try case hl => first | rfl | exact fun _ => rfl); (try case hkd => rfl); (try case hnd => decide); (try case eL => rfl); (try case eC => rfl); (case c1 => rfl); (case c2 => rfl); (case c3 => rfl); (try case c4 => decide); intros; (try simp only [mOf, List.foldl]); (first | (refine W.letE ?_; intro _ _ _) | (refine WX.letE ?_; intro _ _ _ _)))
  refine WX_cutS (fun m1 H1 => ∃ t1 t2 X, m1 = upd (upd (upd (upd (upd (upd (upd emp "self" st) "value" v) "low" vlo) "high" vhi) "most" vmo) "length" (.int (wLen w) t1)) "room" (.int (wRoom w) t2) ∧ H1 = X ++ H) ?_ ?_
  · cases w with
    | none =>
      obtain rfl : v = .none := hv
      (with_reducible refine W_AssignTuple ?_; intro _; with_reducible refine W_IfExp ?_; intro _; with_reducible refine W_isNoneN ?_; with_reducible refine w_condt ?_; with_reducible refine W_Tuple ?_; intro _; with_reducible refine W_itemsI ?_; intro _ _; with_reducible refine W_itemsI ?_; intro _ _; with_reducible refine W_items_nil ?_; with_reducible refine W_newTuple ?_; intro _; with_reducible refine W_unpack ?_; with_reducible refine W_eachName ?_; with_reducible refine W_store ?_; with_reducible refine W_eachName ?_; with_reducible refine W_store ?_; with_reducible refine W_eachNil ?_)
      exact ⟨_, _, [_], rfl, rfl⟩
    | some w =>
      obtain ⟨a, p, q, t1, t2, t3, t4, t5, t6, rfl, ha, hp, hq⟩ := hv
      (with_reducible refine W_AssignTuple ?_; intro _; with_reducible refine W_IfExp ?_; intro _; with_reducible refine W_isNoneR ?_; with_reducible refine w_condf ?_; with_reducible refine W_Tuple ?_; intro _; with_reducible refine W_items_cons ?_; intro _; with_reducible refine W_tupL ?_; with_reducible refine W_items_cons ?_; intro _; with_reducible refine W_tupL ?_; with_reducible refine W_items_nil ?_; with_reducible refine W_newTuple ?_; intro _; with_reducible refine W_unpack ?_; with_reducible refine W_eachName ?_; with_reducible refine W_store ?_; with_reducible refine W_eachName ?_; with_reducible refine W_store ?_; with_reducible refine W_eachNil ?_)
      exact ⟨_, _, [_], rfl, rfl⟩
  · rintro m1 H1 ⟨t1, t2, X, rfl, rfl⟩
    refine WX_consW (W_Assign (W_ifNone (d := 0) h1 (by k_extra "lk") ?_ (fun t3 => ?_) rfl rfl (by decide)) rfl)
    · (with_reducible refine W_int ?_; intro _)
      exact ⟨⟨_, rfl⟩, rfl, rfl⟩
    (with_reducible refine W_store ?_)
    refine WX_consW (W_Assign (W_ifNone (d := wLen w) h2 (by k_extra "lk") ?_ (fun t4 => ?_) rfl rfl (by decide)) rfl)
    · (with_reducible refine W_local ?_)
      exact ⟨⟨_, rfl⟩, rfl, rfl⟩
    (with_reducible refine W_store ?_)
    refine WX_consW (W_Assign (W_ifNone (d := wRoom w) h3 (by k_extra "lk") ?_ (fun t5 => ?_) rfl rfl (by decide)) rfl)
    · (with_reducible refine W_local ?_)
      exact ⟨⟨_, rfl⟩, rfl, rfl⟩
    (with_reducible refine W_store ?_)
    refine WX_cons (WX_IfC (¬ (lo.getD 0 ≤ hi.getD (wLen w) ∧ hi.getD (wLen w) ≤ mo.getD (wRoom w) ∧ mo.getD (wRoom w) ≤ wRoom w)) ?_ (fun hc => ?_) fun hc => ?_)
    · (with_reducible refine W_isTrue_not ?_; intro _; with_reducible refine W_chain ?_; intro _; with_reducible refine W_int ?_; intro _; with_reducible refine W_link ?_; intro _; with_reducible refine W_local ?_; with_reducible refine W_le ?_; with_reducible refine W_truthy_bool ?_; with_reducible refine w_condt ?_; refine W_link' ?_; intro _; with_reducible refine W_local ?_; with_reducible refine W_le ?_; with_reducible refine W_truthy_bool ?_)
      refine ⟨fun q1 => ?_, fun q1 => ?_⟩
      · have q1 := of_decide_eq_true q1
        (refine W_link' ?_; intro _; with_reducible refine W_local ?_; with_reducible refine W_le ?_; with_reducible refine W_truthy_bool ?_)
        refine ⟨fun q2 => ?_, fun q2 => ?_⟩
        · have q2 := of_decide_eq_true q2
          (refine W_last' ?_; intro _; with_reducible refine W_local ?_; with_reducible refine W_le ?_; with_reducible refine W_truthy_bool ?_)
          refine ⟨?_, rfl, rfl⟩
          simp only [Bool.not_eq_true', decide_eq_false_iff_not]
          omega
        · have q2 := of_decide_eq_false q2
          refine ⟨?_, rfl, rfl⟩
          simp only [Bool.not_false, true_iff]
          omega
      · have q1 := of_decide_eq_false q1
        refine ⟨?_, rfl, rfl⟩
        simp only [Bool.not_false, true_iff]
        omega
    · refine WX_cons (WX_Raise (by assumption) (kts71 C) ?_)
      (with_reducible refine W_callG ?_; intro _; with_reducible refine W_items_cons ?_; intro _; with_reducible refine W_str ?_; intro _; with_reducible refine W_items_nil ?_)
      refine sp_panic (bs := txPart) (by assumption) (fun h₀ tk X => ?_) fun e dx v0 v2 v3 v4 v5 sl H' ht hs => ?_
      · rotate_left
        show wpAny (model PySem.Challenge.rw_on0025_01.prog C.w) { handled := none, depth := c.dp + 1, frames := some (_ :: _), guards := some [], units := c.un + 3 } _ _ _ _
        rw [hdp, hun]
        exact xpart C _ h₀ tk X
      · exact ⟨e, dx, v0, v2, v3, v4, v5, sl, H', rfl, .rfl, hE hc dx H' (fun R hR => ht R fun a t1 t2 H2 hs2 => hR a t1 t2 H2 fun p hp => hs2 p (List.mem_append_right _ hp)) fun p hp => hs p (List.mem_append_right _ hp)⟩
    · have hc := Classical.not_not.mp hc
      refine WX.of (W_nil (WX.of ?_))
      have hQ := hQ hc.1 hc.2.1 hc.2.2
      cases w with
      | none =>
        obtain rfl : v = .none := hv
        (with_reducible refine W_consQ ?_; intro _ _ _; with_reducible refine W_Return ?_; with_reducible refine W_IfExp ?_; intro _; with_reducible refine W_isNoneN ?_; with_reducible refine w_condt ?_; with_reducible refine W_none ?_)
        exact ⟨_, Le.rfl.dropA, hQ .none [] rfl⟩
      | some w =>
        obtain ⟨a, p, q, t1, t2, t3, t4, t5, t6, rfl, ha, hp, hq⟩ := hv
        (with_reducible refine W_consQ ?_; intro _ _ _; with_reducible refine W_Return ?_; with_reducible refine W_IfExp ?_; intro _; with_reducible refine W_isNoneR ?_; with_reducible refine w_condf ?_; with_reducible refine W_Tuple ?_; intro _; with_reducible refine W_items_cons ?_; intro _; with_reducible refine W_str ?_; intro _; with_reducible refine W_items_cons ?_; intro _; with_reducible refine W_tupL ?_; with_reducible refine W_items_cons ?_; intro _; with_reducible refine W_BinOp ?_; intro _; with_reducible refine W_tupL ?_; with_reducible refine W_local ?_; with_reducible refine W_add ?_; intro _; with_reducible refine W_items_cons ?_; intro _; with_reducible refine W_BinOp ?_; intro _; with_reducible refine W_local ?_; with_reducible refine W_local ?_; with_reducible refine W_sub ?_; intro _; with_reducible refine W_items_cons ?_; intro _; with_reducible refine W_BinOp ?_; intro _; with_reducible refine W_local ?_; with_reducible refine W_local ?_; with_reducible refine W_sub ?_; intro _; with_reducible refine W_items_nil ?_; with_reducible refine W_newTuple ?_; intro _)
        obtain ⟨k0, b0, l0, r0⟩ := w
        have hQ : ∀ v' X, SlV (some (k0, b0 + lo.getD 0, hi.getD l0 - lo.getD 0, mo.getD r0 - lo.getD 0)) v' (X ++ H) → Q v' m (X ++ H) := hQ
        have hc1 : lo.getD 0 ≤ hi.getD l0 := hc.1
        have hc2 : hi.getD l0 ≤ mo.getD r0 := hc.2.1
        exact ⟨_, Le.cons (Le.rfl.dropA), hQ (.ref _) [_] (SlV.of (.head _) (.tail _ hp) (.tail _ hq) (show ((b0 : Int) + (lo.getD 0 : Nat)) = ((b0 + lo.getD 0 : Nat) : Int) by omega) (show (((hi.getD l0 : Nat) : Int) - (lo.getD 0 : Nat)) = ((hi.getD l0 - lo.getD 0 : Nat) : Int) by omega) (show (((mo.getD r0 : Nat) : Int) - (lo.getD 0 : Nat)) = ((mo.getD r0 - lo.getD 0 : Nat) : Int) by omega))⟩
theorem sp_elemX {C : Cst} {c : Fc} {n : Nat} {m : Mp} {H : HL} (O : Ok C c (n + 2)) (hdp : c.dp = 305) (hun : c.un = 16) {st : Value} {w : Option (Nat × Nat × Nat × Nat)} {v : Value} {i : Int} {ti : Tok} {Q : Value → Mp → HL → Prop} {P : Addr → Mp → HL → Prop}
    (hv : SlV w v H)
    (hQ : ∀ k b l r, w = some (k, b, l, r) → 0 ≤ i → i < l → ∀ v' X, PlV k (b + i.toNat) v' X → Q v' m (X ++ H))
    (hE : ¬ (0 ≤ i ∧ i < wLen w) → ∀ dx H', (∀ R : Value → HL → Prop, (∀ a t1 t2 H2, (∀ p ∈ H, p ∈ H2) → R (.ref a) ((a, tupOf [.str "panic" t1, .bytes txElem.toArray t2]) :: H2)) → Told dx R H') → (∀ p ∈ H, p ∈ H') → P dx m H') :
    WZ C c m H (call (.ref 211) [st, v, .int i ti]) Q P := by
  refine' WZ_def (n := n + 1) (binds := [("self", st), ("value", v), ("index", .int i ti)]) O ?ho ?hcd ?hb ?hl ?_ ?c1 ?c2 ?c3 ?c4
  ((try case hm => k_is); (try case hi => k_is); (try case hf => k_is); (case ho => k_is); (case hcd => k_is); (case hb => first | rfl | exact fun _ => rfl); (try case hl => first | rfl | exact fun _ => rfl); (try case hkd => rfl); (try case hnd => decide); (try case eL => rfl); (try case eC => rfl); (case c1 => rfl); (case c2 => rfl); (case c3 => rfl); (try case c4 => decide); intros; (try simp only [mOf, List.foldl]); (first | (refine W.letE ?_; intro _ _ _) | (refine WX.letE ?_; intro _ _ _ _)))
  refine WX_cons (WX_IfC (¬ (0 ≤ i ∧ i < wLen w)) ?_ (fun hc => ?_) fun hc => ?_)
  · cases w with
    | none =>
      obtain rfl : v = .none := hv
      (with_reducible refine W_or ?_; intro _; with_reducible refine W_isNoneN ?_; with_reducible refine w_condt ?_)
      refine ⟨?_, rfl, rfl⟩
      simp only [true_iff, not_and]
      intro h1 h2
      replace h2 : i < ((0 : Nat) : Int) := h2
      omega
    | some w =>
      obtain ⟨k, b, l, r⟩ := w
      obtain ⟨a, p, q, t1, t2, t3, t4, t5, t6, rfl, ha, hp, hq⟩ := hv
      (with_reducible refine W_or ?_; intro _; with_reducible refine W_isNoneR ?_; with_reducible refine w_condf ?_; with_reducible refine W_or ?_; intro _; with_reducible refine W_isTrue_not ?_; intro _; with_reducible refine W_chain ?_; intro _; with_reducible refine W_int ?_; intro _; with_reducible refine W_link ?_; intro _; with_reducible refine W_local ?_; with_reducible refine W_le ?_; with_reducible refine W_truthy_bool ?_)
      refine ⟨fun q1 => ?_, fun q1 => ?_⟩
      · have q1 := of_decide_eq_true q1
        (refine W_last' ?_; intro _; with_reducible refine W_tupL ?_; with_reducible refine W_lt ?_; with_reducible refine W_truthy_bool ?_)
        refine ⟨fun q2 => ?_, fun q2 => ?_⟩
        · refine ⟨?_, rfl, rfl⟩
          have q2 := (Bool.not_eq_true' _).mp q2
          have q2 := of_decide_eq_false q2
          simp only [true_iff]
          intro z
          exact q2 z.2
        · (with_reducible refine W_or_nil ?_)
          refine ⟨?_, rfl, rfl⟩
          have q2 : (decide (i < (l : Int))) = true := by simpa using q2
          have q2 := of_decide_eq_true q2
          simp only [Bool.false_eq_true, false_iff, Classical.not_not]
          exact ⟨q1, q2⟩
      · have q1 := of_decide_eq_false q1
        (with_reducible refine w_condt ?_)
        refine ⟨?_, rfl, rfl⟩
        simp only [true_iff]
        intro z
        exact q1 z.1
  · refine WX_cons (WX_Raise (by assumption) (kts71 C) ?_)
    (with_reducible refine W_callG ?_; intro _; with_reducible refine W_items_cons ?_; intro _; with_reducible refine W_str ?_; intro _; with_reducible refine W_items_nil ?_)
    refine sp_panic (bs := txElem) (by assumption) (fun h₀ tk X => ?_) fun e dx v0 v2 v3 v4 v5 sl H' ht hs => ?_
    · rotate_left
      show wpAny (model PySem.Challenge.rw_on0025_01.prog C.w) { handled := none, depth := c.dp + 1, frames := some (_ :: _), guards := some [], units := c.un + 3 } _ _ _ _
      rw [hdp, hun]
      exact xelem C _ h₀ tk X
    · exact ⟨e, dx, v0, v2, v3, v4, v5, sl, H', rfl, .rfl, hE hc dx H' ht hs⟩
  · obtain ⟨h0, hl⟩ := Classical.not_not.mp hc
    refine WX.of (W_nil (WX.of ?_))
    cases w with
    | none =>
      replace hl : i < ((0 : Nat) : Int) := hl
      omega
    | some w =>
      obtain ⟨k, b, l, r⟩ := w
      have hQ := hQ k b l r rfl h0 hl
      obtain ⟨a, p, q, t1, t2, t3, t4, t5, t6, rfl, ha, hp, hq⟩ := hv
      (with_reducible refine W_consQ ?_; intro _ _ _; with_reducible refine W_Return ?_; with_reducible refine W_callG ?_; intro _; with_reducible refine W_items_cons ?_; intro _; with_reducible refine W_tupL ?_; with_reducible refine W_items_cons ?_; intro _; with_reducible refine W_BinOp ?_; intro _; with_reducible refine W_tupL ?_; with_reducible refine W_local ?_; with_reducible refine W_add ?_; intro _; with_reducible refine W_items_nil ?_)
      refine sp_inner (by assumption) (by k_extra "mm") (by k_extra "mm") fun a' b' => ?_
      exact Dr.id (hQ _ [_, _] ⟨a', b', t5, t6, _, rfl, .head _, by rw [show ((b + i.toNat : Nat) : Int) = (b : Int) + i by omega]; exact .tail _ (.head _)⟩)
noncomputable def WinOk (R : List (List Int)) (w : Option (Nat × Nat × Nat × Nat)) : Prop := match w with
  | none => True
  | some (k, b, l, r) => ∃ xs, R[k]? = some xs ∧ b + r ≤ xs.length ∧ l ≤ r
noncomputable def wVals (R : List (List Int)) (w : Option (Nat × Nat × Nat × Nat)) : List Int := match w with
  | none => []
  | some (k, b, l, _) => ((R.getD k []).drop b).take l
local macro_rules | `(tactic| k_extra "pk") => `(tactic| first | with_reducible assumption | exact Pk.head | exact Pk.sole | (apply Pk.skip; k_extra "pk") | (apply Pk.skipA; k_extra "pk") | (apply Pk.inA; k_extra "pk"))
local macro_rules | `(tactic| k_extra "p1") => `(tactic| first | exact Pk.one | (apply Pk.skip; k_extra "p1") | (apply Pk.skipA; k_extra "p1") | (apply Pk.inA; k_extra "p1"))
local macro_rules | `(tactic| k_extra "le") => `(tactic| first
  | with_reducible exact Le.rfl
  | ((with_reducible refine' Le.cons ?y); (case y => k_extra "le"))
  | ((refine' Le.pk1 ?x ?y); (case x => k_extra "p1"); (case y => k_extra "le"))
  | ((with_reducible refine' Le.app ?y); (case y => k_extra "le"))
  | ((with_reducible refine' Le.pk ?x ?y); (case x => k_extra "pk"); (case y => k_extra "le"))
  | exact Le.nil
  | ((refine Le.drop ?_); k_extra "le")
  | ((refine Le.dropA ?_); k_extra "le"))
theorem sp_listed {C : Cst} {c : Fc} {n : Nat} {m : Mp} {H A F : HL} (O : Ok C c (n + 3)) {st : Addr} {R : List (List Int)} {w : Option (Nat × Nat × Nat × Nat)} {v : Value} {Q : Value → Mp → HL → Prop}
    (hp : Pk A H F) (hS : StB st R A) (hv : SlV w v F) (hw : WinOk R w) (hR : R.length ≤ 1000) (hx : ∀ xs ∈ R, xs.length ≤ 2000000)
    (h : ∀ D vs e, IntsAre vs (wVals R w) → Q (.ref D) m ((D, lstOf vs e) :: (A ++ F))) : W C c m H (call (.ref 216) [.ref st, v]) Q := by
  refine W.le hp.le ?_
  refine' W_defC (n := n + 2) (binds := [("self", .ref st), ("value", v)]) emp (upd (upd emp "self" (.ref st)) "value" v) O ?ho ?hcd ?hb ?hkd ?hnd ?eL ?eC ?_ ?c1 ?c2 ?c3
  ((try case hm => k_is); (try case hi => k_is); (try case hf => k_is); (case ho => k_is); (case hcd => k_is); (case hb => first | rfl | exact fun _ => rfl); (try case hl => first | rfl | exact fun _ => rfl); (try case hkd => rfl); (try case hnd => decide); (try case eL => rfl); (try case eC => rfl); (case c1 => rfl); (case c2 => rfl); (case c3 => rfl); (try case c4 => decide); intros; (try simp only [mOf, List.foldl]); (first | (refine W.letE ?_; intro _ _ _) | (refine WX.letE ?_; intro _ _ _ _)))
  rename_i L cells O1 Y cF QnF QrF
  obtain ⟨o1, o2, rfl, d1, d2⟩ := CellsAre.two Y
  have d1 : o1.data = .cell (some v) := d1
  have d2 : o2.data = .cell (some (.ref st)) := d2
  refine W.le (H' := (L + 1 + 1, o1) :: (L + 1, o2) :: (A ++ F)) .rfl ?_
  cases w with
  | none =>
    obtain rfl : v = .none := hv
    (with_reducible refine W_consQ ?_; intro _ _ _; with_reducible refine W_Return ?_; with_reducible refine W_IfExp ?_; intro _; with_reducible refine W_isTrue_Compare ?_; intro _; with_reducible refine W_cell ?_; with_reducible refine W_none ?_; with_reducible refine W_is_none_none ?_; with_reducible refine W_truthy_bool ?_; with_reducible refine w_condt ?_; with_reducible refine W_List ?_; intro _; with_reducible refine W_items_nil ?_; with_reducible refine W_newList ?_; intro _)
    exact ⟨_, Le.cons Le.rfl.drop.drop, h _ [] 0 .nil⟩
  | some w =>
    obtain ⟨k, b, l, r⟩ := w
    obtain ⟨xs, hk, hbl, hlr⟩ := hw
    have hv' := hv
    obtain ⟨ds, o, mc₀, ca, rl, ma, kk, X0, hA, hf, hrl⟩ := id hS
    subst hA
    obtain ⟨a, p, q, t1, t2, t3, t4, t5, t6, rfl, ha, hpp, hq⟩ := hv
    (with_reducible refine W_consQ ?_; intro _ _ _; with_reducible refine W_Return ?_; with_reducible refine W_IfExp ?_; intro _; with_reducible refine W_isTrue_Compare ?_; intro _; with_reducible refine W_cell ?_; with_reducible refine W_none ?_; with_reducible refine W_is_ref_none ?_; with_reducible refine W_truthy_bool ?_; with_reducible refine w_condf ?_)
    refine' W_ListComp ?h1 ?h2 ?h3 ?h4 ?h5 ?_
    case h1 => rfl
    case h2 => decide
    case h3 => rfl
    case h4 => decide
    case h5 => rfl
    (with_reducible refine W_CallName ?_; intro _; with_reducible refine W_bltn ?_; with_reducible refine W_callT ?_; intro _; with_reducible refine W_items_cons ?_; intro _; with_reducible refine W_Subscript ?_; intro _; with_reducible refine W_cell ?_; with_reducible refine W_int ?_; intro _; with_reducible refine W_tupItem ?_; with_reducible refine W_items_nil ?_)
    have hxl := hx xs (List.mem_of_getElem? hk)
    have hkR : k < R.length := (List.getElem?_eq_some_iff.mp hk).1
    refine W_range (by omega) (by omega) fun it X hX => ?_
    rw [Int.toNat_natCast] at hX
    refine ⟨l, _, _, _, it, X, _, fun i ys m' H' => m' = emp ∧ H' = (L + 1 + 1, o1) :: (L + 1, o2) :: (((st, instObj 275 ds) :: (ds, o) :: X0) ++ F) ∧ IntsAre ys ((xs.drop b).take i), ⟨rfl, It_range, .rfl, hX, trivial, rfl, rfl, .nil⟩, Self_range, by simp only [sizeLine_eq]; omega, fun _ => trivial, ?_, ?_⟩
    · rintro i v ys m' H' X' D oC mc A' e hi hyl ⟨⟨t, rfl⟩, hX'⟩ _ ⟨rfl, rfl, hys⟩ hC hm
      refine W_tests_nil ⟨fun _ => ?_, fun q => nomatch q⟩
      (with_reducible refine W_Method ?_; intro _; with_reducible refine W_cCell ?_; with_reducible refine W_method ?_; with_reducible refine W_callK ?_; intro _; with_reducible refine W_items_cons ?_; intro _; with_reducible refine W_Method ?_; intro _; with_reducible refine W_cCell ?_; with_reducible refine W_method ?_; with_reducible refine W_callK ?_; intro _; with_reducible refine W_items_cons ?_; intro _; with_reducible refine W_cCell ?_; with_reducible refine W_items_cons ?_; intro _; with_reducible refine W_cLocal ?_; with_reducible refine W_items_nil ?_)
      refine sp_elem (by assumption) (hv'.sub fun p hp => ?_) hi fun v' X2 hpl => ?_
      · k_extra "mm"
      (with_reducible refine W_items_nil ?_)
      have hj : ∃ x, xs[b + i]? = some x := ⟨xs[b + i]'(by omega), by simp⟩
      obtain ⟨x, hj⟩ := hj
      refine sp_load (by assumption) (by k_extra "pk") hS (hpl.sub fun p hp => ?_) hk hj (by omega) (by omega) fun tx => ?_
      · k_extra "mm"
      refine ⟨X', oC, mc, _, ?_, hX', hC, trivial, rfl, rfl, ?_⟩
      · k_extra "le"
      · rw [List.take_add_one, List.getElem?_drop, hj]
        exact hys.append (.cons x tx .nil)
    · rintro ys m' H' A' e hyl _ ⟨rfl, rfl, hys⟩
      refine ⟨_, Le.cons Le.rfl.drop.drop, h _ ys e ?_⟩
      show IntsAre ys (((R.getD k []).drop b).take l)
      rw [List.getD_eq_getElem?_getD, hk]
      exact hys
noncomputable def wrt (xs : List Int) (j : Nat) (ys : List Int) : List Int := xs.take j ++ ys ++ xs.drop (j + ys.length)
theorem wrt_nil {xs : List Int} {j : Nat} : wrt xs j [] = xs := by simp [wrt]
theorem wrt_len {xs ys : List Int} {j : Nat} (h : j + ys.length ≤ xs.length) : (wrt xs j ys).length = xs.length := by simp [wrt]; omega
theorem wrt_get {xs ys : List Int} {j i : Nat} (h : j + ys.length ≤ xs.length) (h2 : i < xs.length) (h3 : j + ys.length ≤ i) : (wrt xs j ys)[i]? = xs[i]? := by
  unfold wrt
  rw [List.getElem?_append_right (by simp; omega), List.getElem?_drop]
  congr 1
  simp
  omega
theorem wrt_step {xs ys : List Int} {j : Nat} {y : Int} (h : j + ys.length < xs.length) : (wrt xs j ys).set (j + ys.length) y = wrt xs j (ys ++ [y]) := by
  unfold wrt
  have hl : (xs.take j ++ ys).length = j + ys.length := by simp; omega
  rw [List.set_append_right _ _ (by omega), hl, Nat.sub_self]
  have hd : xs.drop (j + ys.length) = xs[j + ys.length] :: xs.drop (j + ys.length + 1) := List.drop_eq_getElem_cons h
  rw [hd, List.set_cons_zero]
  simp [Nat.add_assoc]
theorem take_snoc {ys : List Int} {i : Nat} {y : Int} (h : ys[i]? = some y) : ys.take (i + 1) = ys.take i ++ [y] := by rw [List.take_add_one, h]; rfl
theorem set_set {R : List (List Int)} {k : Nat} {a b : List Int} : (R.set k a).set k b = R.set k b := by simp
theorem set_self {R : List (List Int)} {k : Nat} {xs : List Int} (h : R[k]? = some xs) : R.set k xs = R := by
  obtain ⟨h1, rfl⟩ := List.getElem?_eq_some_iff.mp h
  simp
theorem PlV.of {k j : Nat} {ji : Int} {a q : Addr} {t1 t2 t3 : Tok} {F : HL} (h1 : (a, tupOf [.str "row" t1, .int k t2, .ref q]) ∈ F) (h2 : (q, tupOf [.int ji t3]) ∈ F) (e : ji = j) : PlV k j (.ref a) F := by
  subst e
  exact ⟨a, q, t1, t2, t3, rfl, h1, h2⟩
theorem sp_put {C : Cst} {c : Fc} {n : Nat} {m : Mp} {H A F : HL} (O : Ok C c (n + 4)) {st vl : Addr} {R : List (List Int)} {k b l r bg : Nat} {v : Value} {tb : Tok} {vs : List Value} {ev : Nat} {xs ys : List Int} {Q : Value → Mp → HL → Prop}
    (hp : Pk A H F) (hS : StB st R A) (hv : SlV (some (k, b, l, r)) v F) (hl : (vl, lstOf vs ev) ∈ F) (hi : IntsAre vs ys) (hk : R[k]? = some xs) (hf : b + bg + ys.length ≤ xs.length)
    (hkb : (k : Int) < 2 ^ 31) (hxb : (xs.length : Int) < 2 ^ 31)
    (h : ∀ A', StB st (R.set k (wrt xs (b + bg) ys)) A' → Q .none m (A' ++ F)) : W C c m H (call (.ref 223) [.ref st, v, .int bg tb, .ref vl]) Q := by
  refine W.le hp.le ?_
  have hv' := hv
  obtain ⟨a, p, q, t1, t2, t3, t4, t5, t6, rfl, ha, hpp, hq⟩ := hv
  have hlen := hi.length
  have hkR : k < R.length := (List.getElem?_eq_some_iff.mp hk).1
  refine' W_def (n := n + 3) (binds := [("self", .ref st), ("value", .ref a), ("begin", .int bg tb), ("values", .ref vl)]) O ?ho ?hcd ?hb ?hl ?_ ?c1 ?c2 ?c3 ?c4
  ((try case hm => k_is); (try case hi => k_is); (try case hf => k_is); (case ho => k_is); (case hcd => k_is); (case hb => first | rfl | exact fun _ => rfl); (try case hl => first | rfl | exact fun _ => rfl); (try case hkd => rfl); (try case hnd => decide); (try case eL => rfl); (try case eC => rfl); (case c1 => rfl); (case c2 => rfl); (case c3 => rfl); (try case c4 => decide); intros; (try simp only [mOf, List.foldl]); (first | (refine W.letE ?_; intro _ _ _) | (refine WX.letE ?_; intro _ _ _ _)))
  refine W_cons (W_For ?_)
  (with_reducible refine W_CallName ?_; intro _; with_reducible refine W_bltn ?_; with_reducible refine W_callT ?_; intro _; with_reducible refine W_itemsL ?_; intro _; with_reducible refine W_items_nil ?_)
  refine W_enumerate (List.mem_append_right _ hl) fun en X hX => ?_
  refine ⟨vs.length, _, _, _, en, X, A ++ F, fun i m' H' => m' "self" = some (.ref st) ∧ m' "value" = some (.ref a) ∧ m' "begin" = some (.int bg tb) ∧ ∃ A', H' = A' ++ F ∧ StB st (R.set k (wrt xs (b + bg) (ys.take i))) A',
    ⟨rfl, It_enum rfl, .rfl, hX, List.mem_append_right _ hl, by k_extra "lk", by k_extra "lk", by k_extra "lk", A, rfl, ?_⟩, ?_, ?_⟩
  · rw [List.take_zero, wrt_nil, set_self hk]
    exact hS
  · rintro i v m' H' X' hlt ⟨it, o, T, t, x, rfl, hx, rfl, ho1, ho2⟩ hneed ⟨m1, m2, m3, A', rfl, hS'⟩
    refine W_ownedEnum ?_
    obtain ⟨ds, od, mc₀, ca, rl, ma, kk, X0, hA, hf0, hrl⟩ := id hS'
    subst hA
    have hy : ∃ y ty, ys[i]? = some y ∧ x = .int y ty := by
      have : i < ys.length := by omega
      obtain ⟨ty, z⟩ := ints_get hi (j := i) (x := ys[i]) (by simp [this])
      rw [hx] at z
      exact ⟨ys[i], ty, by simp [this], Option.some.inj z⟩
    obtain ⟨y, ty, hy, rfl⟩ := hy
    (with_reducible refine W_unpack ?_; with_reducible refine W_eachName ?_; with_reducible refine W_store ?_; with_reducible refine W_eachName ?_; with_reducible refine W_store ?_; with_reducible refine W_eachNil ?_; with_reducible refine W_consQ ?_; intro _ _ _; with_reducible refine W_Expr ?_; intro _; with_reducible refine W_methL ?_; intro _; with_reducible refine W_items_cons ?_; intro _; with_reducible refine W_callG ?_; intro _; with_reducible refine W_items_cons ?_; intro _; with_reducible refine W_tupL ?_; with_reducible refine W_items_cons ?_; intro _; with_reducible refine W_BinOp ?_; intro _; with_reducible refine W_BinOp ?_; intro _; with_reducible refine W_tupL ?_; with_reducible refine W_local ?_; with_reducible refine W_add ?_; intro _; with_reducible refine W_local ?_; with_reducible refine W_add ?_; intro _; with_reducible refine W_items_nil ?_)
    refine sp_inner (by assumption) (by k_extra "mm") (by k_extra "mm") fun a' b' => ?_
    (with_reducible refine W_itemsL ?_; intro _; with_reducible refine W_items_nil ?_)
    have hil : i < ys.length := by omega
    have htl : (ys.take i).length = i := by simp; omega
    have hxj : ∃ x0, xs[b + bg + i]? = some x0 := ⟨xs[b + bg + i]'(by omega), by simp⟩
    obtain ⟨x0, hxj⟩ := hxj
    refine sp_store (k := k) (j := b + bg + i) (xs := wrt xs (b + bg) (ys.take i)) (x := x0) (by assumption) (by k_extra "pk") hS' (PlV.of (j := b + bg + i) (by k_extra "mm") (by k_extra "mm") (by omega)) (by rw [List.getElem?_set_self hkR]) (by rw [wrt_get (by omega) (by omega) (by omega)]; exact hxj) (by omega) (by omega) fun A2 hS2 => ?_
    (with_reducible refine W_nil ?_)
    rw [set_set, show b + bg + i = b + bg + (ys.take i).length by omega, wrt_step (by omega), ← take_snoc hy] at hS2
    refine ⟨[(en, enumObj it (i + 1) (.int y ty)), (it, o)], A2 ++ F, ?_, ⟨it, o, _, rfl, ho1, ho2⟩, List.mem_append_right _ hl, by k_extra "lk", by k_extra "lk", by k_extra "lk", A2, rfl, hS2⟩
    k_extra "le"
  · rintro m' H' _ ⟨_, _, _, A', rfl, hS'⟩
    rw [List.take_of_length_le (by omega)] at hS'
    (with_reducible refine W_nil ?_)
    exact Dr.id (h A' hS')
theorem W_eqInts {C : Cst} {c : Fc} {n : Nat} {m : Mp} {H : HL} (O : Ok C c (n + 7)) {a b : Addr} {xs ys : List Value} {e1 e2 : Nat} {ns ms : List Int} {Q : Value → Mp → HL → Prop} (ha : (a, lstOf xs e1) ∈ H) (hb : (b, lstOf ys e2) ∈ H) (hi : IntsAre xs ns) (hj : IntsAre ys ms)
    (h : Q (.bool (decide (ns = ms))) m H) : W C c m H (compareOp .Eq (.ref a) (.ref b)) Q := fun _ _ _ T F N =>
  ke_eq_ints ⟨_, N.get ha, rfl, e1, rfl⟩ ⟨_, N.get hb, rfl, e2, rfl⟩ hi hj (by have := O.hu; show c.un + 64 < cLine; omega) (Po.in T F N h)
theorem W_neInts {C : Cst} {c : Fc} {n : Nat} {m : Mp} {H : HL} (O : Ok C c (n + 7)) {a b : Addr} {xs ys : List Value} {e1 e2 : Nat} {ns ms : List Int} {Q : Value → Mp → HL → Prop} (ha : (a, lstOf xs e1) ∈ H) (hb : (b, lstOf ys e2) ∈ H) (hi : IntsAre xs ns) (hj : IntsAre ys ms)
    (h : Q (.bool (!decide (ns = ms))) m H) : W C c m H (compareOp .NotEq (.ref a) (.ref b)) Q := fun _ _ _ T F N =>
  ke_ne_ints ⟨_, N.get ha, rfl, e1, rfl⟩ ⟨_, N.get hb, rfl, e2, rfl⟩ hi hj (by have := O.hu; show c.un + 64 < cLine; omega) (Po.in T F N h)
noncomputable def stepG (r : Nat) : Nat := if r < 8 then max 1 (r * 2) else r + r / 2
noncomputable def growF : Nat → Nat → Nat → Nat
  | 0, r, _ => r
  | f + 1, r, wt => if r < wt then growF f (stepG r) wt else r
theorem fuel_step {a r s f : Nat} (h : a - r ≤ f + 1) (q : r < s) : a - s ≤ f := by omega
theorem fuel_pos {a r f : Nat} (h : a - r ≤ f) (q : r < a) : f = f - 1 + 1 := (Nat.succ_pred_eq_of_pos (Nat.lt_of_lt_of_le (Nat.sub_pos_of_lt q) h)).symm
theorem stepG_gt (r : Nat) : r < stepG r := by unfold stepG; split <;> omega
theorem stepG_le (r : Nat) : stepG r ≤ max 1 (2 * r) := by unfold stepG; split <;> omega
theorem step_cap {r wt : Nat} (q : r < wt) (h : wt ≤ 1000000) : stepG r ≤ 4000000 := by have := stepG_le r; omega
theorem growF_of_ge {f r wt : Nat} (h : ¬ r < wt) : growF f r wt = r := by cases f with
  | zero => rfl
  | succ f => unfold growF; rw [if_neg h]
theorem growF_ge : ∀ (f : Nat) {r wt : Nat}, wt - r ≤ f → wt ≤ growF f r wt
  | 0, r, wt, h => by unfold growF; omega
  | f + 1, r, wt, h => by
    unfold growF
    split
    · exact growF_ge f (fuel_step h (stepG_gt r))
    · omega
theorem growF_le : ∀ (f : Nat) {r wt : Nat}, growF f r wt ≤ max r (2 * wt)
  | 0, r, wt => by unfold growF; omega
  | f + 1, r, wt => by
    unfold growF
    split
    · have := growF_le f (r := stepG r) (wt := wt); have := stepG_le r; omega
    · omega
noncomputable def growN (r wt : Nat) : Nat := growF wt r wt
noncomputable def joinS (R : List (List Int)) (w : Option (Nat × Nat × Nat × Nat)) (ys : List Int) : List (List Int) × Option (Nat × Nat × Nat × Nat) :=
  if ys = [] then (R, w)
  else if wLen w + ys.length ≤ wRoom w then match w with
    | none => (R, none)
    | some (k, b, l, r) => (R.set k (wrt (R.getD k []) (b + l) ys), some (k, b, l + ys.length, r))
  else (R ++ [wVals R w ++ ys ++ List.replicate (growN (wRoom w) (wLen w + ys.length) - (wLen w + ys.length)) 0], some (R.length, 0, wLen w + ys.length, growN (wRoom w) (wLen w + ys.length)))
theorem ints_rep {k : Nat} {x : Int} {t : Tok} : IntsAre (List.replicate k (.int x t)) (List.replicate k x) := by
  induction k with
  | zero => exact .nil
  | succ k ih => exact .cons x t ih
theorem sp_joined {C : Cst} {c : Fc} {n : Nat} {m : Mp} {H A F : HL} (O : Ok C c (n + 12)) {st ml : Addr} {R : List (List Int)} {w : Option (Nat × Nat × Nat × Nat)} {v : Value} {tz : Tok} {ms : List Value} {em : Nat} {ys : List Int} {Q : Value → Mp → HL → Prop}
    (hp : Pk A H F) (hS : StB st R A) (hv : SlV w v F) (hw : WinOk R w) (hl : (ml, lstOf ms em) ∈ F) (hi : IntsAre ms ys) (hR : R.length ≤ 1000) (hx : ∀ xs ∈ R, xs.length ≤ 100000) (hy : ys.length ≤ 100)
    (h : ∀ A' v' X, StB st (joinS R w ys).1 A' → SlV (joinS R w ys).2 v' (X ++ F) → Q v' m (A' ++ (X ++ F))) : W C c m H (call (.ref 237) [.ref st, v, .ref ml, .int 0 tz]) Q := by
  refine W.le hp.le ?_
  have hlen := hi.length
  obtain ⟨ds, o, mc₀, ca, rl, ma, kk, X0, hA, hf, hrl⟩ := id hS
  subst hA
  refine' W_def (n := n + 11) (binds := [("self", .ref st), ("value", v), ("more", .ref ml), ("zero", .int 0 tz)]) O ?ho ?hcd ?hb ?hl ?_ ?c1 ?c2 ?c3 ?c4
  ((try case hm => k_is); (try case hi => k_is); (try case hf => k_is); (case ho => k_is); (case hcd => k_is); (case hb => first | rfl | exact fun _ => rfl); (try case hl => first | rfl | exact fun _ => rfl); (try case hkd => rfl); (try case hnd => decide); (try case eL => rfl); (try case eC => rfl); (case c1 => rfl); (case c2 => rfl); (case c3 => rfl); (try case c4 => decide); intros; (try simp only [mOf, List.foldl]); (first | (refine W.letE ?_; intro _ _ _) | (refine WX.letE ?_; intro _ _ _ _)))
  refine W_cons (W_If ?_)
  (with_reducible refine W_isTrue_Compare ?_; intro _; with_reducible refine W_local ?_; with_reducible refine W_List ?_; intro _; with_reducible refine W_items_nil ?_; with_reducible refine W_newList ?_; intro _)
  refine W_eqInts (n := n + 4) (by assumption) (by k_extra "mm") (by k_extra "mm") hi .nil ?_
  (with_reducible refine W_truthy_bool ?_)
  refine ⟨fun q => ?_, fun q => ?_⟩
  · have q : ys = [] := by simpa using q
    have e : joinS R w ys = (R, w) := by unfold joinS; rw [if_pos q]
    rw [e] at h
    (with_reducible refine W_consQ ?_; intro _ _ _; with_reducible refine W_Return ?_; with_reducible refine W_local ?_)
    exact ⟨_, Le.rfl.drop, h _ v [] hS hv⟩
  · have q : ys ≠ [] := by simpa using q
    refine W_nil (W.le (Le.rfl.drop) ?_)
    refine W_cutS (fun m1 H1 => ∃ t1 t2 X1, m1 = upd (upd (upd (upd (upd (upd emp "self" (.ref st)) "value" v) "more" (.ref ml)) "zero" (.int 0 tz)) "length" (.int (wLen w) t1)) "room" (.int (wRoom w) t2) ∧ H1 = X1 ++ (((st, instObj 275 ds) :: (ds, o) :: X0) ++ F)) ?_ ?_
    · cases w with
      | none =>
        obtain rfl : v = .none := hv
        (with_reducible refine W_AssignTuple ?_; intro _; with_reducible refine W_IfExp ?_; intro _; with_reducible refine W_isNoneN ?_; with_reducible refine w_condt ?_; with_reducible refine W_Tuple ?_; intro _; with_reducible refine W_itemsI ?_; intro _ _; with_reducible refine W_itemsI ?_; intro _ _; with_reducible refine W_items_nil ?_; with_reducible refine W_newTuple ?_; intro _; with_reducible refine W_unpack ?_; with_reducible refine W_eachName ?_; with_reducible refine W_store ?_; with_reducible refine W_eachName ?_; with_reducible refine W_store ?_; with_reducible refine W_eachNil ?_)
        exact ⟨_, _, [_], rfl, rfl⟩
      | some w =>
        obtain ⟨a, p, qq, t1, t2, t3, t4, t5, t6, rfl, ha, hpp, hq⟩ := hv
        (with_reducible refine W_AssignTuple ?_; intro _; with_reducible refine W_IfExp ?_; intro _; with_reducible refine W_isNoneR ?_; with_reducible refine w_condf ?_; with_reducible refine W_Tuple ?_; intro _; with_reducible refine W_items_cons ?_; intro _; with_reducible refine W_tupL ?_; with_reducible refine W_items_cons ?_; intro _; with_reducible refine W_tupL ?_; with_reducible refine W_items_nil ?_; with_reducible refine W_newTuple ?_; intro _; with_reducible refine W_unpack ?_; with_reducible refine W_eachName ?_; with_reducible refine W_store ?_; with_reducible refine W_eachName ?_; with_reducible refine W_store ?_; with_reducible refine W_eachNil ?_)
        exact ⟨_, _, [_], rfl, rfl⟩
    · rintro m1 H1 ⟨t1, t2, X1, rfl, rfl⟩
      refine W.le (Le.rfl.dropA) ?_
      (with_reducible refine W_consQ ?_; intro _ _ _; with_reducible refine W_assignN ?_; intro _; with_reducible refine W_BinOp ?_; intro _; with_reducible refine W_local ?_; with_reducible refine W_CallName ?_; intro _; with_reducible refine W_bltn ?_; with_reducible refine W_callB0 ?_; intro _; with_reducible refine W_itemsL ?_; intro _; with_reducible refine W_items_nil ?_)
      refine W_len (vs := ms) (by k_extra "mm") (fun t3 => ?_) (by omega)
      rw [hlen]
      (with_reducible refine W_add ?_; intro _; with_reducible refine W_consQ ?_; intro _ _ _; with_reducible refine W_If ?_; intro _; with_reducible refine W_isTrue_Compare ?_; intro _; with_reducible refine W_local ?_; with_reducible refine W_local ?_; with_reducible refine W_le ?_; with_reducible refine W_truthy_bool ?_)
      refine ⟨fun q2 => ?_, fun q2 => ?_⟩
      · have q2 : wLen w + ys.length ≤ wRoom w := by have := of_decide_eq_true q2; omega
        cases w with
        | none => exact absurd q2 (by show ¬ (0 + ys.length ≤ 0); have : ys.length ≠ 0 := fun z => q (List.length_eq_zero_iff.mp z); omega)
        | some w =>
          obtain ⟨k, b, l, r⟩ := w
          obtain ⟨xs, hk, hbl, hlr⟩ := hw
          have q3 : l + ys.length ≤ r := q2
          have hkR : k < R.length := (List.getElem?_eq_some_iff.mp hk).1
          have hxl := hx xs (List.mem_of_getElem? hk)
          have e : joinS R (some (k, b, l, r)) ys = (R.set k (wrt xs (b + l) ys), some (k, b, l + ys.length, r)) := by
            unfold joinS
            rw [if_neg q, if_pos q2]
            show (R.set k (wrt (R.getD k []) (b + l) ys), some (k, b, l + ys.length, r)) = _
            rw [List.getD_eq_getElem?_getD, hk]
            rfl
          rw [e] at h
          have hv' := hv
          obtain ⟨a, p, qq, t1, t2, t3, t4, t5, t6, rfl, ha, hpp, hq⟩ := hv
          (with_reducible refine W_consQ ?_; intro _ _ _; with_reducible refine W_Expr ?_; intro _; with_reducible refine W_methL ?_; intro _; with_reducible refine W_itemsL ?_; intro _; with_reducible refine W_itemsL ?_; intro _; with_reducible refine W_itemsL ?_; intro _; with_reducible refine W_items_nil ?_)
          refine sp_put (bg := l) (by assumption) (by k_extra "pk") hS hv' hl hi hk (by omega) (by omega) (by omega) fun A' hS' => ?_
          (with_reducible refine W_consQ ?_; intro _ _ _; with_reducible refine W_Return ?_; with_reducible refine W_Tuple ?_; intro _; with_reducible refine W_items_cons ?_; intro _; with_reducible refine W_str ?_; intro _; with_reducible refine W_items_cons ?_; intro _; with_reducible refine W_tupL ?_; with_reducible refine W_items_cons ?_; intro _; with_reducible refine W_tupL ?_; with_reducible refine W_itemsL ?_; intro _; with_reducible refine W_itemsL ?_; intro _; with_reducible refine W_items_nil ?_; with_reducible refine W_newTuple ?_; intro _)
          exact ⟨_, by k_extra "le", h A' _ [_] hS' (SlV.of (.head _) (.tail _ hpp) (.tail _ hq) (el := by show ((l : Nat) : Int) + (ys.length : Int) = ((l + ys.length : Nat) : Int); omega) (er := rfl))⟩
      · have q2 : ¬ wLen w + ys.length ≤ wRoom w := by have := of_decide_eq_false q2; omega
        have hwl : wLen w ≤ 100000 ∧ wRoom w ≤ 100000 := by
          cases w with
          | none => exact ⟨Nat.zero_le _, Nat.zero_le _⟩
          | some w =>
            obtain ⟨k, b, l, r⟩ := w
            obtain ⟨xs, hk, hbl, hlr⟩ := hw
            have hxl := hx xs (List.mem_of_getElem? hk)
            exact ⟨show l ≤ 100000 by omega, show r ≤ 100000 by omega⟩
        have e : joinS R w ys = (R ++ [wVals R w ++ ys ++ List.replicate (growN (wRoom w) (wLen w + ys.length) - (wLen w + ys.length)) 0], some (R.length, 0, wLen w + ys.length, growN (wRoom w) (wLen w + ys.length))) := by
          unfold joinS
          rw [if_neg q, if_neg q2]
        rw [e] at h
        generalize hL : wLen w = len at *
        generalize hM : wRoom w = room at *
        (with_reducible refine W_nil ?_; with_reducible refine W_consQ ?_; intro _ _ _; with_reducible refine W_If ?_; intro _; with_reducible refine W_isTrue_Compare ?_; intro _; with_reducible refine W_local ?_; with_reducible refine W_glob ?_; with_reducible refine W_gt ?_; with_reducible refine W_truthy_bool ?_)
        refine cond_f (decide_eq_false (by omega)) ?_
        with_reducible refine W_nil ?_
        refine W_cons (W_While (fun f m1 H1 => ∃ r t, H1 = ((st, instObj 275 ds) :: (ds, o) :: X0) ++ F ∧ growF f r (len + ys.length) = growN room (len + ys.length) ∧ len + ys.length - r ≤ f ∧ r ≤ 1000000 ∧ m1 "room" = some (.int (r : Int) t) ∧
          m1 "self" = some (.ref st) ∧ m1 "value" = some v ∧ m1 "more" = some (.ref ml) ∧ m1 "zero" = some (.int 0 tz) ∧ ∃ tw, m1 "wanted" = some (.int ((len : Int) + (ys.length : Int)) tw)) (len + ys.length)
          ⟨room, _, rfl, rfl, by omega, by omega, by rw [← hM]; k_extra "lk", by k_extra "lk", by k_extra "lk", by k_extra "lk", by k_extra "lk", _, by rw [← hL]; k_extra "lk"⟩ ?_)
        rintro f m1 H1 ⟨r, t, rfl, hg, hfu, hr6, e1, e2, e3, e4, e5, tw, e6⟩
        (with_reducible refine W_isTrue_Compare ?_; intro _; with_reducible refine W_local ?_; with_reducible refine W_local ?_; with_reducible refine W_lt ?_; with_reducible refine W_truthy_bool ?_)
        refine ⟨fun q5 => ?_, fun q5 => ?_⟩
        · have q5 : r < len + ys.length := by have := of_decide_eq_true q5; omega
          (with_reducible refine W_consQ ?_; intro _ _ _; with_reducible refine W_assignN ?_; intro _; with_reducible refine W_IfExp ?_; intro _; with_reducible refine W_isTrue_Compare ?_; intro _; with_reducible refine W_local ?_; with_reducible refine W_int ?_; intro _; with_reducible refine W_lt ?_; with_reducible refine W_truthy_bool ?_)
          obtain ⟨f, rfl⟩ : ∃ f', f = f' + 1 := ⟨f - 1, fuel_pos hfu q5⟩
          have hg' : growF f (stepG r) (len + ys.length) = growN room (len + ys.length) := by
            rw [← hg]
            conv => rhs; unfold growF
            rw [if_pos q5]
          have g1 := stepG_gt r
          have g2 := stepG_le r
          refine ⟨fun q6 => ?_, fun q6 => ?_⟩
          · have q6 : r < 8 := by have := of_decide_eq_true q6; omega
            have es : ((stepG r : Nat) : Int) = max 1 ((r : Int) * 2) := by unfold stepG; rw [if_pos q6]; omega
            (with_reducible refine W_CallName ?_; intro _; with_reducible refine W_bltn ?_; with_reducible refine W_callB0 ?_; intro _; with_reducible refine W_itemsI ?_; intro _ _; with_reducible refine W_items_cons ?_; intro _; with_reducible refine W_BinOp ?_; intro _; with_reducible refine W_local ?_; with_reducible refine W_int ?_; intro _)
            refine W_mul (IntMulOk.of_right (by decide +kernel)) fun t7 => ?_
            (with_reducible refine W_items_nil ?_)
            refine W_max2 (by assumption) rfl fun t8 => ?_
            (with_reducible refine W_nil ?_)
            rw [← es]
            exact ⟨f, _, Nat.lt_succ_self f, .rfl, stepG r, _, rfl, hg', fuel_step hfu g1, by omega, by k_extra "lk", by k_extra "lk", by k_extra "lk", by k_extra "lk", by k_extra "lk", _, by k_extra "lk"⟩
          · have q6 : ¬ r < 8 := by have := of_decide_eq_false q6; omega
            have es : ((stepG r : Nat) : Int) = (r : Int) + (r : Int).fdiv 2 := by
              unfold stepG; rw [if_neg q6, Int.fdiv_eq_ediv_of_nonneg _ (by omega)]; omega
            (with_reducible refine W_BinOp ?_; intro _; with_reducible refine W_local ?_; with_reducible refine W_BinOp ?_; intro _; with_reducible refine W_local ?_; with_reducible refine W_int ?_; intro _)
            refine W_div (by decide) (PyProof.noPylong_small (by decide)) fun t7 => ?_
            (with_reducible refine W_add ?_; intro _; with_reducible refine W_nil ?_)
            rw [← es]
            exact ⟨f, _, Nat.lt_succ_self f, .rfl, stepG r, _, rfl, hg', fuel_step hfu g1, by omega, by k_extra "lk", by k_extra "lk", by k_extra "lk", by k_extra "lk", by k_extra "lk", _, by k_extra "lk"⟩
        · have q5 : ¬ r < len + ys.length := by have := of_decide_eq_false q5; omega
          (with_reducible refine W_consQ ?_; intro _ _ _; with_reducible refine W_assignN ?_; intro _; with_reducible refine W_BinOp ?_; intro _; with_reducible refine W_methL ?_; intro _; with_reducible refine W_itemsL ?_; intro _; with_reducible refine W_items_nil ?_)
          rw [growF_of_ge q5] at hg
          have hvw : (wVals R w).length ≤ 100000 := by
            cases w with
            | none => exact Nat.zero_le _
            | some w =>
              obtain ⟨k, b, l, r⟩ := w
              have : l = len := hL
              have : (((R.getD k []).drop b).take l).length ≤ l := by simp; omega
              exact Nat.le_trans this (by omega)
          have hG : growN room (len + ys.length) ≤ 300000 := by have := growF_le (len + ys.length) (r := room) (wt := len + ys.length); unfold growN; omega
          refine sp_listed (n := n + 8) (by assumption) (by k_extra "pk") hS hv hw hR (fun xs h => Nat.le_trans (hx xs h) (by decide)) fun D vs e hvs => ?_
          have hvl := hvs.length
          (with_reducible refine W_local ?_)
          refine W_addL (vs := vs) (ws := ms) (by k_extra "mm") (by k_extra "mm") (fun D2 => ?_) (by simp only [sizeLine_eq]; omega)
          (with_reducible refine W_consQ ?_; intro _ _ _; with_reducible refine W_Return ?_; with_reducible refine W_Tuple ?_; intro _; with_reducible refine W_items_cons ?_; intro _; with_reducible refine W_str ?_; intro _; with_reducible refine W_items_cons ?_; intro _; with_reducible refine W_Tuple ?_; intro _; with_reducible refine W_items_cons ?_; intro _; with_reducible refine W_str ?_; intro _; with_reducible refine W_items_cons ?_; intro _; with_reducible refine W_methL ?_; intro _; with_reducible refine W_items_cons ?_; intro _; with_reducible refine W_BinOp ?_; intro _; with_reducible refine W_local ?_; with_reducible refine W_BinOp ?_; intro _; with_reducible refine W_List ?_; intro _; with_reducible refine W_itemsL ?_; intro _; with_reducible refine W_items_nil ?_; with_reducible refine W_newList ?_; intro _; with_reducible refine W_BinOp ?_; intro _; with_reducible refine W_local ?_; with_reducible refine W_local ?_; with_reducible refine W_sub ?_; intro _)
          refine W_mul1 (by k_extra "mm") (by omega) (by omega) fun D3 => ?_
          skip
          refine W_addL (vs := vs ++ ms) (by k_extra "mm") (by k_extra "mm") (fun D4 => ?_) (by simp only [sizeLine_eq, List.length_append, List.length_replicate]; omega)
          (with_reducible refine W_items_nil ?_)
          refine sp_newRow (xs := wVals R w ++ ys ++ List.replicate (growN room (len + ys.length) - (len + ys.length)) 0) (by assumption) (by k_extra "pk") hS (by k_extra "mm") ?_ hR (by simp only [List.length_append, List.length_replicate]; omega) fun A' tr hS' => ?_
          · have : ((r : Int) - ((len : Int) + (ys.length : Int))).toNat = growN room (len + ys.length) - (len + ys.length) := by omega
            rw [this]
            exact (hvs.append hi).append ints_rep
          (with_reducible refine W_items_cons ?_; intro _; with_reducible refine W_Tuple ?_; intro _; with_reducible refine W_items_nil ?_; with_reducible refine W_newTuple ?_; intro _; with_reducible refine W_items_nil ?_; with_reducible refine W_newTuple ?_; intro _; with_reducible refine W_itemsI ?_; intro _ _; with_reducible refine W_itemsL ?_; intro _; with_reducible refine W_itemsL ?_; intro _; with_reducible refine W_items_nil ?_; with_reducible refine W_newTuple ?_; intro _)
          refine' ⟨_, ?le, h A' _ [_, _, _] hS' (SlV.of ?a ?b ?c ?d ?e ?f)⟩
          case le => k_extra "le"
          case a => exact .head _
          case b => exact .tail _ (.head _)
          case c => exact .tail _ (.tail _ (.head _))
          case d => rfl
          case e => omega
          case f => omega
theorem sp_takeP {C : Cst} {c : Fc} {n : Nat} {m : Mp} {H F : HL} (O : Ok C c (n + 1)) {src : Addr} {o : Obj} {top : Int} {tt : Tok} {Q : Value → Mp → HL → Prop}
    (hp : Pk [(src, o)] H F) (ho : IsSrc o) (h0 : 0 < top) (h1 : top < 1000000) (h : ∀ v t o', IsSrc o' → 0 ≤ v → v < top → Q (.int v t) m ((src, o') :: F)) :
    W C c m H (call (.ref 347) [.ref src, .int top tt]) Q := W.le hp.le (sp_take (g := fun o' => (src, o') :: F) O ho (fun _ => At.head) h0 h1 h)
theorem sp_one {C : Cst} {c : Fc} {n : Nat} {m : Mp} {H F : HL} (O : Ok C c (n + 2)) {src l : Addr} {o : Obj} {vs : List Value} {e : Nat} {Q : Value → Mp → HL → Prop}
    (hp : Pk [(src, o)] H F) (ho : IsSrc o) (hl : (l, lstOf vs e) ∈ F) (hn : vs ≠ []) (hz : vs.length < 1000000) (h : ∀ (i : Nat) v o', vs[i]? = some v → IsSrc o' → Q v m ((src, o') :: F)) :
    W C c m H (call (.ref 354) [.ref src, .ref l]) Q := by
  have h0 : vs.length ≠ 0 := fun z => hn (List.length_eq_zero_iff.mp z)
  refine W.le hp.le ?_
  refine' W_def (n := n + 1) (binds := [("source", .ref src), ("things", .ref l)]) O ?ho ?hcd ?hb ?hl ?_ ?c1 ?c2 ?c3 ?c4
  ((try case hm => k_is); (try case hi => k_is); (try case hf => k_is); (case ho => k_is); (case hcd => k_is); (case hb => first | rfl | exact fun _ => rfl); (try case hl => first | rfl | exact fun _ => rfl); (try case hkd => rfl); (try case hnd => decide); (try case eL => rfl); (try case eC => rfl); (case c1 => rfl); (case c2 => rfl); (case c3 => rfl); (try case c4 => decide); intros; (try simp only [mOf, List.foldl]); (first | (refine W.letE ?_; intro _ _ _) | (refine WX.letE ?_; intro _ _ _ _)))
  (with_reducible refine W_consQ ?_; intro _ _ _; with_reducible refine W_Return ?_; with_reducible refine W_Subscript ?_; intro _; with_reducible refine W_local ?_; with_reducible refine W_callG ?_; intro _; with_reducible refine W_itemsL ?_; intro _; with_reducible refine W_items_cons ?_; intro _; with_reducible refine W_CallName ?_; intro _; with_reducible refine W_bltn ?_; with_reducible refine W_callB0 ?_; intro _; with_reducible refine W_itemsL ?_; intro _; with_reducible refine W_items_nil ?_)
  refine W_len (vs := vs) (.tail _ hl) (fun t => ?_) (by omega)
  (with_reducible refine W_items_nil ?_)
  refine sp_takeP (by assumption) (by k_extra "pk") ho (by omega) (by omega) fun v t2 o' ho' hv0 hv1 => ?_
  have hx : ∃ x, vs[v.toNat]? = some x := ⟨vs[v.toNat]'(by omega), by simp⟩
  obtain ⟨x, hx⟩ := hx
  refine W_lstItem (.tail _ hl) hv0 hx (Dr.id (h v.toNat x o' hx ho')) (by omega)

noncomputable abbrev Win := Option (Nat × Nat × Nat × Nat)
inductive WinC (k b l r : Nat) (v : Value) (F : HL) : Prop
  | mk (a : Addr) (t1 t2 t3 t4 : Tok) (e : v = .ref a) (h1 : (a, tupOf [.int k t1, .int b t2, .int l t3, .int r t4]) ∈ F) : WinC k b l r v F
noncomputable def WinV (w : Win) (v : Value) (F : HL) : Prop := match w with
  | none => v = .none
  | some (k, b, l, r) => WinC k b l r v F
theorem sp_values {C : Cst} {c : Fc} {n : Nat} {m : Mp} {H B F : HL} (O : Ok C c (n + 1)) {rl : Addr} {R : List (List Int)} {w : Option (Nat × Nat × Nat × Nat)} {v : Value} {Q : Value → Mp → HL → Prop}
    (hp : Pk B H F) (hS : RowsL rl R B) (hv : WinV w v F) (hw : WinOk R w) (hR : R.length ≤ 1000) (hx : ∀ xs ∈ R, xs.length ≤ 2000000)
    (h : ∀ D vs e, IntsAre vs (wVals R w) → Q (.ref D) m ((D, lstOf vs e) :: (B ++ F))) : W C c m H (call (.ref 368) [v, .ref rl]) Q := by
  refine W.le hp.le ?_
  obtain ⟨as, e, X, rfl, hr⟩ := hS
  refine' W_def (n := n) (binds := [("window", v), ("rows", .ref rl)]) O ?ho ?hcd ?hb ?hl ?_ ?c1 ?c2 ?c3 ?c4
  ((try case hm => k_is); (try case hi => k_is); (try case hf => k_is); (case ho => k_is); (case hcd => k_is); (case hb => first | rfl | exact fun _ => rfl); (try case hl => first | rfl | exact fun _ => rfl); (try case hkd => rfl); (try case hnd => decide); (try case eL => rfl); (try case eC => rfl); (case c1 => rfl); (case c2 => rfl); (case c3 => rfl); (try case c4 => decide); intros; (try simp only [mOf, List.foldl]); (first | (refine W.letE ?_; intro _ _ _) | (refine WX.letE ?_; intro _ _ _ _)))
  cases w with
  | none =>
    obtain rfl : v = .none := hv
    (with_reducible refine W_consQ ?_; intro _ _ _; with_reducible refine W_Return ?_; with_reducible refine W_IfExp ?_; intro _; with_reducible refine W_isTrue_Compare ?_; intro _; with_reducible refine W_local ?_; with_reducible refine W_none ?_; with_reducible refine W_isnot_none_none ?_; with_reducible refine W_truthy_bool ?_; with_reducible refine w_condf ?_; with_reducible refine W_List ?_; intro _; with_reducible refine W_items_nil ?_; with_reducible refine W_newList ?_; intro _)
    exact Dr.id (h _ [] 0 .nil)
  | some w =>
    obtain ⟨k, b, l, r⟩ := w
    obtain ⟨xs, hk, hbl, hlr⟩ := hw
    obtain ⟨a, t1, t2, t3, t4, rfl, ha⟩ := hv
    have hkR : k < R.length := (List.getElem?_eq_some_iff.mp hk).1
    have hxl := hx xs (List.mem_of_getElem? hk)
    obtain ⟨ra, vs, er, h1, h2, h3, -⟩ := hr.at hk
    (with_reducible refine W_consQ ?_; intro _ _ _; with_reducible refine W_Return ?_; with_reducible refine W_IfExp ?_; intro _; with_reducible refine W_isTrue_Compare ?_; intro _; with_reducible refine W_local ?_; with_reducible refine W_none ?_; with_reducible refine W_isnot_ref_none ?_; with_reducible refine W_truthy_bool ?_; with_reducible refine w_condt ?_; with_reducible refine W_slice ?_; intro _; with_reducible refine W_Subscript ?_; intro _; with_reducible refine W_local ?_; with_reducible refine W_tupL ?_)
    refine W_lstItem (by k_extra "mm") (by omega) (get_map_ref' h1) ?_ (by omega)
    (with_reducible refine W_part1 ?_; with_reducible refine W_tupL ?_; with_reducible refine W_part1 ?_; with_reducible refine W_BinOp ?_; intro _; with_reducible refine W_tupL ?_; with_reducible refine W_tupL ?_; with_reducible refine W_add ?_; intro _)
    refine SliceX.list (List.mem_append_left _ (.tail _ h3)) (IsPart.int _ _) (IsPart.int _ _) (by simp only [sizeLine_eq]; have := h2.length; omega) fun D => Dr.id (h D _ 0 ?_)
    have z := slice_ints h2 (x := (b : Int)) (y := (b : Int) + (l : Int)) (by omega) (by omega) (by omega)
    rw [show ((b : Int)).toNat = b by omega, show ((b : Int) + (l : Int) - (b : Int)).toNat = l by omega] at z
    show IntsAre _ (((R.getD k []).drop b).take l)
    rw [List.getD_eq_getElem?_getD, hk]
    exact z
theorem sp_grown {C : Cst} {c : Fc} {n : Nat} {m : Mp} {H : HL} (O : Ok C c (n + 1)) {r0 wt : Nat} {ta tb : Tok} {Q : Value → Mp → HL → Prop} (hr : r0 ≤ 1000000) (hw : wt ≤ 1000000) (h : ∀ t, Q (.int (growN r0 wt : Nat) t) m H) :
    W C c m H (call (.ref 387) [.int r0 ta, .int wt tb]) Q := by
  refine' W_def (n := n) (binds := [("room", .int r0 ta), ("wanted", .int wt tb)]) O ?ho ?hcd ?hb ?hl ?_ ?c1 ?c2 ?c3 ?c4
  ((try case hm => k_is); (try case hi => k_is); (try case hf => k_is); (case ho => k_is); (case hcd => k_is); (case hb => first | rfl | exact fun _ => rfl); (try case hl => first | rfl | exact fun _ => rfl); (try case hkd => rfl); (try case hnd => decide); (try case eL => rfl); (try case eC => rfl); (case c1 => rfl); (case c2 => rfl); (case c3 => rfl); (try case c4 => decide); intros; (try simp only [mOf, List.foldl]); (first | (refine W.letE ?_; intro _ _ _) | (refine WX.letE ?_; intro _ _ _ _)))
  refine W_cons (W_While (fun f m1 H1 => ∃ r t, H1 = H ∧ growF f r wt = growN r0 wt ∧ wt - r ≤ f ∧ r ≤ 4000000 ∧ m1 "room" = some (.int (r : Int) t) ∧ m1 "wanted" = some (.int (wt : Int) tb)) wt ⟨r0, ta, rfl, rfl, by omega, by omega, by k_extra "lk", by k_extra "lk"⟩ ?_)
  rintro f m1 H1 ⟨r, t, rfl, hg, hfu, hr6, e1, e2⟩
  (with_reducible refine W_isTrue_Compare ?_; intro _; with_reducible refine W_local ?_; with_reducible refine W_local ?_; with_reducible refine W_lt ?_; with_reducible refine W_truthy_bool ?_)
  refine ⟨fun q5 => ?_, fun q5 => ?_⟩
  · have q5 : r < wt := by have := of_decide_eq_true q5; omega
    obtain ⟨f, rfl⟩ : ∃ f', f = f' + 1 := ⟨f - 1, fuel_pos hfu q5⟩
    have hg' : growF f (stepG r) wt = growN r0 wt := by
      rw [← hg]
      conv => rhs; unfold growF
      rw [if_pos q5]
    have g1 := stepG_gt r
    have g2 := stepG_le r
    (with_reducible refine W_consQ ?_; intro _ _ _; with_reducible refine W_assignN ?_; intro _; with_reducible refine W_BinOp ?_; intro _; with_reducible refine W_local ?_; with_reducible refine W_CallName ?_; intro _; with_reducible refine W_bltn ?_; with_reducible refine W_callB0 ?_; intro _; with_reducible refine W_itemsI ?_; intro _ _; with_reducible refine W_items_cons ?_; intro _; with_reducible refine W_IfExp ?_; intro _; with_reducible refine W_isTrue_Compare ?_; intro _; with_reducible refine W_local ?_; with_reducible refine W_int ?_; intro _; with_reducible refine W_lt ?_; with_reducible refine W_truthy_bool ?_)
    refine ⟨fun q6 => ?_, fun q6 => ?_⟩
    · have q6 : r < 8 := by have := of_decide_eq_true q6; omega
      have es : ((stepG r : Nat) : Int) = (r : Int) + max 1 (r : Int) := by unfold stepG; rw [if_pos q6]; omega
      (with_reducible refine W_local ?_; with_reducible refine W_items_nil ?_)
      refine W_max2 (by assumption) rfl fun t8 => ?_
      (with_reducible refine W_add ?_; intro _; with_reducible refine W_nil ?_)
      rw [← es]
      exact ⟨f, _, Nat.lt_succ_self f, .rfl, stepG r, _, rfl, hg', fuel_step hfu g1, step_cap q5 (by assumption), by k_extra "lk", by k_extra "lk"⟩
    · have q6 : ¬ r < 8 := by have := of_decide_eq_false q6; omega
      have es : ((stepG r : Nat) : Int) = (r : Int) + max 1 ((r : Int).fdiv 2) := by
        unfold stepG; rw [if_neg q6, Int.fdiv_eq_ediv_of_nonneg _ (by omega)]; omega
      (with_reducible refine W_BinOp ?_; intro _; with_reducible refine W_local ?_; with_reducible refine W_int ?_; intro _)
      refine W_div (by decide) (PyProof.noPylong_small (by decide)) fun t7 => ?_
      (with_reducible refine W_items_nil ?_)
      refine W_max2 (by assumption) rfl fun t8 => ?_
      (with_reducible refine W_add ?_; intro _; with_reducible refine W_nil ?_)
      rw [← es]
      exact ⟨f, _, Nat.lt_succ_self f, .rfl, stepG r, _, rfl, hg', fuel_step hfu g1, step_cap q5 (by assumption), by k_extra "lk", by k_extra "lk"⟩
  · have q5 : ¬ r < wt := by have := of_decide_eq_false q5; omega
    rw [growF_of_ge q5] at hg
    (with_reducible refine W_consQ ?_; intro _ _ _; with_reducible refine W_Return ?_; with_reducible refine W_local ?_)
    rw [hg]
    exact Dr.id (h _)
theorem W_neBool {C : Cst} {c : Fc} {m : Mp} {H : HL} {a b : Bool} {Q : Value → Mp → HL → Prop} (h : Q (.bool (a != b)) m H) : W C c m H (compareOp .NotEq (.bool a) (.bool b)) Q := fun _ _ _ T F N => PyProof.Rows.ne_bool (Po.in T F N h)
noncomputable def RdL (c : Fc) (H : HL) (v : Value) (d : PyData) : Prop := ∀ g h, Led g c h H → ∃ as, Reads h v d as
theorem RdL.int {c : Fc} {H : HL} {i : Int} {t : Tok} : RdL c H (.int i t) (.int i) := fun _ _ _ => ⟨_, .int i t⟩
theorem RdL.bool {c : Fc} {H : HL} {b : Bool} : RdL c H (.bool b) (.bool b) := fun _ _ _ => ⟨_, .bool b⟩
theorem RdL.none {c : Fc} {H : HL} : RdL c H .none .none := fun _ _ _ => ⟨_, .none⟩
theorem RdL.str {c : Fc} {H : HL} {x : Str} {t : Tok} : RdL c H (.str x t) (.str x) := fun _ _ _ => ⟨_, .str x t⟩
noncomputable def RdAll (c : Fc) (H : HL) : List Value → List PyData → Prop
  | [], [] => True
  | v :: vs, d :: ds => RdL c H v d ∧ RdAll c H vs ds
  | _, _ => False
theorem RdAll.reads {c : Fc} {H : HL} : ∀ {vs : List Value} {ds : List PyData}, RdAll c H vs ds → ∀ g h, Led g c h H → ∃ as, ReadsAll h vs ds as
  | [], [], _, _, _, _ => ⟨_, .nil⟩
  | [], _ :: _, x, _, _, _ => x.elim
  | _ :: _, [], x, _, _, _ => x.elim
  | _ :: _, _ :: _, ⟨a, b⟩, g, h, N => by
    obtain ⟨as, x⟩ := a g h N
    obtain ⟨bs, y⟩ := RdAll.reads b g h N
    exact ⟨_, .cons x y⟩
theorem RdL.tuple {c : Fc} {H : HL} {a : Addr} {vs : List Value} {ds : List PyData} (hm : (a, tupOf vs) ∈ H) (x : RdAll c H vs ds) : RdL c H (.ref a) (.tuple ds) := fun g h N => by
  obtain ⟨as, y⟩ := x.reads g h N
  exact ⟨_, reads_tuple_at (N.get hm) rfl rfl (by simpa using y)⟩
theorem W_eqD {C : Cst} {c : Fc} {n : Nat} {m : Mp} {H : HL} (O : Ok C c (n + 7)) {a b : Value} {da db : PyData} {Q : Value → Mp → HL → Prop} (ra : RdL c H a da) (rb : RdL c H b db) (ha : SeqAt.shaped da = true) (hb : SeqAt.shaped db = true)
    (h : Q (.bool (PyData.eqv da db)) m H) : W C c m H (compareOp .Eq a b) Q := fun g hh tk T F N => by
  obtain ⟨as, ra⟩ := ra g hh N
  obtain ⟨bs, rb⟩ := rb g hh N
  exact eq_dataH (s := C.sh hh tk) ra rb ha hb (by have := O.hu; show c.un + 64 < cLine; omega) (Po.in T F N h)
theorem W_neD {C : Cst} {c : Fc} {n : Nat} {m : Mp} {H : HL} (O : Ok C c (n + 7)) {a b : Value} {da db : PyData} {Q : Value → Mp → HL → Prop} (ra : RdL c H a da) (rb : RdL c H b db) (ha : SeqAt.shaped da = true) (hb : SeqAt.shaped db = true)
    (h : Q (.bool (!PyData.eqv da db)) m H) : W C c m H (compareOp .NotEq a b) Q := fun g hh tk T F N => by
  obtain ⟨as, ra⟩ := ra g hh N
  obtain ⟨bs, rb⟩ := rb g hh N
  exact ne_dataH (s := C.sh hh tk) ra rb ha hb (by have := O.hu; show c.un + 64 < cLine; omega) (Po.in T F N h)
theorem WinV.sub {w : Win} {v : Value} {F F' : HL} (h : WinV w v F) (s : ∀ p ∈ F, p ∈ F') : WinV w v F' := by
  cases w with
  | none => exact h
  | some w =>
    obtain ⟨k, b, l, r⟩ := w
    obtain ⟨a, t1, t2, t3, t4, h1, h2⟩ := h
    exact ⟨a, t1, t2, t3, t4, h1, s _ h2⟩
theorem WinV.of {k b l r : Nat} {ki bi li ri : Int} {a : Addr} {t1 t2 t3 t4 : Tok} {F : HL} (h : (a, tupOf [.int ki t1, .int bi t2, .int li t3, .int ri t4]) ∈ F) (e1 : ki = k) (e2 : bi = b) (e3 : li = l) (e4 : ri = r) : WinV (some (k, b, l, r)) (.ref a) F := by
  subst e1 e2 e3 e4
  exact ⟨a, t1, t2, t3, t4, rfl, h⟩
inductive PairsAt (F : HL) : List Win → List Value → Prop
  | nil : PairsAt F [] []
  | cons {w ws p ps v u} : (p, tupOf [v, u]) ∈ F → SlV w v F → WinV w u F → PairsAt F ws ps → PairsAt F (w :: ws) (.ref p :: ps)
theorem PairsAt.sub {F F' : HL} {ws : List Win} {ps : List Value} (h : PairsAt F ws ps) (s : ∀ p ∈ F, p ∈ F') : PairsAt F' ws ps := by
  induction h with
  | nil => exact .nil
  | cons h1 h2 h3 _ ih => exact .cons (s _ h1) (h2.sub s) (h3.sub s) ih
theorem PairsAt.len {F : HL} {ws : List Win} {ps : List Value} (h : PairsAt F ws ps) : ps.length = ws.length := by
  induction h with
  | nil => rfl
  | cons _ _ _ _ ih => simp [ih]
theorem PairsAt.get {F : HL} {ws : List Win} {ps : List Value} (h : PairsAt F ws ps) : ∀ {i : Nat} {x : Value}, ps[i]? = some x → ∃ w p v u, ws[i]? = some w ∧ x = .ref p ∧ (p, tupOf [v, u]) ∈ F ∧ SlV w v F ∧ WinV w u F := by
  induction h with
  | nil => intro i x h; simp at h
  | cons h1 h2 h3 _ ih =>
    intro i x h
    cases i with
    | zero => simp at h; subst h; exact ⟨_, _, _, _, rfl, rfl, h1, h2, h3⟩
    | succ i => simpa using ih (by simpa using h)
theorem PairsAt.snoc {F : HL} {ws : List Win} {ps : List Value} (h : PairsAt F ws ps) {w : Win} {p : Addr} {v u : Value} (h1 : (p, tupOf [v, u]) ∈ F) (h2 : SlV w v F) (h3 : WinV w u F) : PairsAt F (ws ++ [w]) (ps ++ [.ref p]) := by
  induction h with
  | nil => exact .cons h1 h2 h3 .nil
  | cons a b d _ ih => exact .cons a b d ih
theorem Le.trans' {H1 H2 H3 A : HL} (x : Le (A ++ H1) H3) (y : Le H2 H1) : Le (A ++ H2) H3 := (Le.app y).trans x
theorem eqv_ints2 {a b : Int} : PyData.eqv (.tuple [.int a, .int b]) (.tuple [.int a, .int b]) = true := by simp [PyData.eqv, PyData.eqvAll]
theorem shaped_ints2 {a b : Int} : SeqAt.shaped (.tuple [.int a, .int b]) = true := by simp [SeqAt.shaped, PyData.canLay0, PyData.canLayAll0, PyData.depth, PyData.depthAll]
theorem SlV.none {F : HL} : SlV Option.none .none F := rfl
theorem WinV.none {F : HL} : WinV Option.none .none F := rfl
theorem sp_stands {C : Cst} {c : Fc} {n : Nat} {m : Mp} {H H1 A B F : HL} (O : Ok C c (n + 12)) {st rl pl : Addr} {R : List (List Int)} {ws : List Win} {ps : List Value} {ep : Nat} {Q : Value → Mp → HL → Prop}
    (hpA : Pk A H H1) (hpB : Pk B H1 F) (hS : StB st R A) (hB : RowsL rl R B) (hl : (pl, lstOf ps ep) ∈ F) (hP : PairsAt F ws ps) (hw : ∀ w ∈ ws, WinOk R w) (hR : R.length ≤ 1000) (hx : ∀ xs ∈ R, xs.length ≤ 1000000)
    (h : Q (.bool true) m (A ++ (B ++ F))) : W C c m H (call (.ref 375) [.ref st, .ref pl, .ref rl]) Q := by
  refine W.le (hpA.le.trans' hpB.le) ?_
  have hx2 : ∀ xs ∈ R, xs.length ≤ 2000000 := fun xs h => Nat.le_trans (hx xs h) (by decide)
  refine' W_def (n := n + 11) (binds := [("store", .ref st), ("pairs", .ref pl), ("rows", .ref rl)]) O ?ho ?hcd ?hb ?hl ?_ ?c1 ?c2 ?c3 ?c4
  ((try case hm => k_is); (try case hi => k_is); (try case hf => k_is); (case ho => k_is); (case hcd => k_is); (case hb => first | rfl | exact fun _ => rfl); (try case hl => first | rfl | exact fun _ => rfl); (try case hkd => rfl); (try case hnd => decide); (try case eL => rfl); (try case eC => rfl); (case c1 => rfl); (case c2 => rfl); (case c3 => rfl); (try case c4 => decide); intros; (try simp only [mOf, List.foldl]); (first | (refine W.letE ?_; intro _ _ _) | (refine WX.letE ?_; intro _ _ _ _)))
  obtain ⟨ds, o, mc₀, ca, rlS, ma, kk, X0, hA, hf, hrl⟩ := id hS
  subst hA
  refine W_cons (W_For ?_)
  (with_reducible refine W_local ?_)
  refine W_iter_list (vs := ps) (e := ep) (List.mem_append_right _ (List.mem_append_right _ hl)) fun it X hX => ?_
  refine ⟨ps.length, _, _, _, it, X, _, fun i m' H' => m' "store" = some (.ref st) ∧ m' "rows" = some (.ref rl) ∧ H' = ((st, instObj 275 ds) :: (ds, o) :: X0) ++ (B ++ F),
    ⟨rfl, It_list (vs := ps) (e := ep), .rfl, hX, List.mem_append_right _ (List.mem_append_right _ hl), by k_extra "lk", by k_extra "lk", rfl⟩, ?_, ?_⟩
  · rintro i v m' H' X' hlt ⟨hxi, hX'⟩ hneed ⟨m1, m2, rfl⟩
    obtain ⟨w, p, v1, u, hwi, rfl, hp, hv, hu⟩ := hP.get hxi
    have hwk := hw w (List.mem_of_getElem? hwi)
    refine W_ownedTupL hX' ?_
    (with_reducible refine W_unpack ?_; with_reducible refine W_eachName ?_; with_reducible refine W_store ?_; with_reducible refine W_eachName ?_; with_reducible refine W_store ?_; with_reducible refine W_eachNil ?_; with_reducible refine W_consQ ?_; intro _ _ _; with_reducible refine W_If ?_; intro _; with_reducible refine W_or ?_; intro _; with_reducible refine W_isTrue_Compare ?_; intro _; with_reducible refine W_Compare ?_; intro _; with_reducible refine W_local ?_; with_reducible refine W_none ?_)
    cases w with
    | none =>
      obtain rfl : v1 = .none := hv
      obtain rfl : u = .none := hu
      (with_reducible refine W_is_none_none ?_; with_reducible refine W_Compare ?_; intro _; with_reducible refine W_local ?_; with_reducible refine W_none ?_; with_reducible refine W_is_none_none ?_; with_reducible refine W_neBool ?_; with_reducible refine W_truthy_bool ?_; with_reducible refine w_condf ?_; with_reducible refine W_or ?_; intro _; with_reducible refine W_isTrue_Compare ?_; intro _; with_reducible refine W_methL ?_; intro _; with_reducible refine W_itemsL ?_; intro _; with_reducible refine W_items_nil ?_)
      refine sp_listed (n := n + 8) (w := none) (by assumption) (by k_extra "pk") hS SlV.none hwk hR hx2 fun D1 vs1 e1 hi1 => ?_
      (with_reducible refine W_callG ?_; intro _; with_reducible refine W_itemsL ?_; intro _; with_reducible refine W_itemsL ?_; intro _; with_reducible refine W_items_nil ?_)
      refine sp_values (n := n + 10) (w := none) (by assumption) (by k_extra "pk") hB rfl hwk hR hx2 fun D2 vs2 e2 hi2 => ?_
      refine W_neInts (n := n + 4) (by assumption) (by k_extra "mm") (by k_extra "mm") hi1 hi2 ?_
      rw [show (!decide (wVals R none = wVals R none)) = false by simp]
      (with_reducible refine W_truthy_bool ?_; with_reducible refine w_condf ?_; with_reducible refine W_or_nil ?_; with_reducible refine w_condf ?_; with_reducible refine W_nil ?_; with_reducible refine W_consQ ?_; intro _ _ _; with_reducible refine W_If ?_; intro _; with_reducible refine W_and ?_; intro _; with_reducible refine W_isTrue_Compare ?_; intro _; with_reducible refine W_local ?_; with_reducible refine W_none ?_; with_reducible refine W_isnot_none_none ?_; with_reducible refine W_truthy_bool ?_; with_reducible refine w_condf ?_; with_reducible refine w_condf ?_; with_reducible refine W_nil ?_; with_reducible refine W_nil ?_)
      refine ⟨X', _, ?_, hX', List.mem_append_right _ (List.mem_append_right _ hl), by k_extra "lk", by k_extra "lk", rfl⟩
      k_extra "le"
    | some w =>
      obtain ⟨k, b, l, r⟩ := w
      have hv' := hv
      have hu' := hu
      obtain ⟨a, p1, q1, t1, t2, t3, t4, t5, t6, rfl, ha, hpp, hq⟩ := hv
      obtain ⟨a2, s1, s2, s3, s4, rfl, ha2⟩ := hu
      (with_reducible refine W_is_ref_none ?_; with_reducible refine W_Compare ?_; intro _; with_reducible refine W_local ?_; with_reducible refine W_none ?_; with_reducible refine W_is_ref_none ?_; with_reducible refine W_neBool ?_; with_reducible refine W_truthy_bool ?_; with_reducible refine w_condf ?_; with_reducible refine W_or ?_; intro _; with_reducible refine W_isTrue_Compare ?_; intro _; with_reducible refine W_methL ?_; intro _; with_reducible refine W_itemsL ?_; intro _; with_reducible refine W_items_nil ?_)
      refine sp_listed (n := n + 8) (w := (some (k, b, l, r))) (by assumption) (by k_extra "pk") hS (hv'.sub fun p hp => by k_extra "mm") hwk hR hx2 fun D1 vs1 e1 hi1 => ?_
      (with_reducible refine W_callG ?_; intro _; with_reducible refine W_itemsL ?_; intro _; with_reducible refine W_itemsL ?_; intro _; with_reducible refine W_items_nil ?_)
      refine sp_values (n := n + 10) (w := (some (k, b, l, r))) (by assumption) (by k_extra "pk") hB (hu'.sub fun p hp => by k_extra "mm") hwk hR hx2 fun D2 vs2 e2 hi2 => ?_
      refine W_neInts (n := n + 4) (by assumption) (by k_extra "mm") (by k_extra "mm") hi1 hi2 ?_
      rw [show (!decide (wVals R (some (k, b, l, r)) = wVals R (some (k, b, l, r)))) = false by simp]
      (with_reducible refine W_truthy_bool ?_; with_reducible refine w_condf ?_; with_reducible refine W_or_nil ?_; with_reducible refine w_condf ?_; with_reducible refine W_nil ?_; with_reducible refine W_consQ ?_; intro _ _ _; with_reducible refine W_If ?_; intro _; with_reducible refine W_and ?_; intro _; with_reducible refine W_isTrue_Compare ?_; intro _; with_reducible refine W_local ?_; with_reducible refine W_none ?_; with_reducible refine W_isnot_ref_none ?_; with_reducible refine W_truthy_bool ?_; with_reducible refine w_condt ?_; with_reducible refine W_and ?_; intro _; with_reducible refine W_isTrue_Compare ?_; intro _; with_reducible refine W_slice ?_; intro _; with_reducible refine W_local ?_; with_reducible refine W_part1 ?_; with_reducible refine W_int ?_; intro _; with_reducible refine W_part0 ?_)
      refine SliceX.tup 3 (by k_extra "mm") (by decide) (by exact Nat.le_of_ble_eq_true rfl) (by exact Nat.le_of_ble_eq_true rfl) rfl fun D3 => ?_
      (with_reducible refine W_slice ?_; intro _; with_reducible refine W_local ?_; with_reducible refine W_part1 ?_; with_reducible refine W_int ?_; intro _; with_reducible refine W_part0 ?_)
      refine SliceX.tup 2 (by k_extra "mm") (by decide) (by exact Nat.le_of_ble_eq_true rfl) (by exact Nat.le_of_ble_eq_true rfl) rfl fun D4 => ?_
      refine W_neD (n := n + 4) (by assumption) (RdL.tuple (vs := [.int l t3, .int r t4]) (ds := [.int l, .int r]) (by k_extra "mm") ⟨.int, .int, trivial⟩) (RdL.tuple (vs := [.int l s3, .int r s4]) (ds := [.int l, .int r]) (by k_extra "mm") ⟨.int, .int, trivial⟩) shaped_ints2 shaped_ints2 ?_
      rw [eqv_ints2]
      (with_reducible refine W_truthy_bool ?_; with_reducible refine w_condf ?_; with_reducible refine w_condf ?_; with_reducible refine W_nil ?_; with_reducible refine W_nil ?_)
      refine ⟨X', _, ?_, hX', List.mem_append_right _ (List.mem_append_right _ hl), by k_extra "lk", by k_extra "lk", rfl⟩
      k_extra "le"
  · rintro m' H' _ ⟨_, _, rfl⟩
    (with_reducible refine W_consQ ?_; intro _ _ _; with_reducible refine W_Return ?_; with_reducible refine W_true ?_)
    exact Dr.id h
theorem set_slice {prog : Program} {w : World} {A : Around} {E : Value → Shared → Prop} {s : Shared} {l sl r : Addr} {items new : Array Value} {ne : Nat} {vl vu : Value} {lo hi : Option Int} {Q : Unit → Shared → Prop} (ho : s.heap.get? l = some (listOf items ne)) (hr : s.heap.IsList r new) (hlr : l ≠ r)
    (hs : s.heap.IsSliceOf sl vl vu .none) (pl : IsPart vl lo) (pu : IsPart vu hi) (hz : items.size + new.size ≤ sizeLine)
    (h : Q () { s with heap := s.heap.update l (Obj.mapSeq fun xs => xs.extract 0 (sliceBounds lo hi none items.size).1.toNat ++ new ++ xs.extract (max (sliceBounds lo hi none items.size).1 (sliceBounds lo hi none items.size).2.1).toNat xs.size) }) :
    wpAny (model prog w) A (setItem (.ref l) (.ref sl) (.ref r)) Q E s := by
  have hl : s.heap.IsList l items := PySem.IsL.isList (n := ne) ho
  obtain ⟨os, hos, hcs, hds⟩ := id hs
  have hTs : s.TypeIs (.ref sl) "slice" := ⟨os, hos, hcs⟩
  obtain ⟨onw, hor, hcr, nr, hdr⟩ := id hr
  unfold setItem
  try with_reducible refine wpAny_holding ?_
  first | refine wpAny_bind (wpAny_pure ?_) | skip
  refine wpAny_bind (wpAny_sequenceKey hl.typeIs (by decide) ?_)
  refine wpAny_bind (wpAny_callSpecial?_slot (name := Str.ofString "__setitem__") hl.typeIs slot_list_setitem
    (wpAny_call_entry slot_list_setitem hl.typeIs entry_list_setitem ?_ (args_list_setitem _ _ _)))
  show wpAny _ _ (Builtin.List.listSubscript? (.ref sl) >>= _) _ _ s
  refine wpAny_bind ?_
  unfold Builtin.List.listSubscript?
  refine wpAny_bind (wpAny_specialOf hTs slice_no_index ?_)
  simp only [Option.isNone_none, if_true]
  refine wpAny_pure ?_
  show wpAny _ _ (typeOf (.ref sl) >>= _) _ _ s
  refine wpAny_bind (wpAny_typeOf hTs ?_)
  rw [if_neg (by decide)]
  rw [listSliceParts_eq]
  refine wpAny_bind (wpAny_bind (wpAny_field hos hds (x := .none) rfl (wpAny_bind (wpAny_listPart .none ?_))))
  rw [if_neg (show ¬ ((rawPart none == rawInt 0) = true) from Bool.false_ne_true)]
  refine wpAny_bind (wpAny_field hos hds (x := vl) rfl (wpAny_bind (wpAny_listPart pl ?_)))
  refine wpAny_bind (wpAny_field hos hds (x := vu) rfl (wpAny_bind (wpAny_listPart pu (wpAny_pure ?_))))
  have hne : ¬ (Builtin.List.listSameRef (.ref l) (.ref r) = true) := by simp [Builtin.List.listSameRef, hlr]
  rw [if_neg hne]
  refine wpAny_bind (m := Builtin.List.listAllItems (.ref r) "must assign iterable to extended slice") ?_
  unfold Builtin.List.listAllItems
  refine wpAny_bind (wpAny_typeOf hr.typeIs ?_)
  rw [if_pos (by decide)]
  unfold Builtin.List.listItems
  refine wpAny_bind (wpAny_seqItems hor hdr (wpAny_pure ?_))
  refine wpAny_bind (m := Builtin.List.listItems (.ref l)) ?_
  unfold Builtin.List.listItems
  refine wpAny_bind (wpAny_seqItems ho rfl (wpAny_pure ?_))
  refine wpAny_bind (wpAny_of_eq (sliceIndices_raw lo hi none items.size (by simp)) ?_)
  rw [if_pos (show ((sliceBounds lo hi none items.size).2.2 == 1) = true from rfl)]
  refine wpAny_bind (wpAny_rule ?_)
  rw [if_neg (show ¬ (Builtin.List.listTooLong (items.size + new.size) = true) by simp [Builtin.List.listTooLong]; omega)]
  refine wpAny_bind (m := updateSeq l _) ?_
  refine wpAny_updateSeq ho rfl (wpAny_bind (wpAny_letGo (wpAny_pure ⟨.none, rfl, wpAny_pure h⟩))) (by omega) ?_
  simp only [Array.size_append, Array.size_extract]
  have hm := Int.toNat_le_toNat (Int.le_max_left (sliceBounds lo hi none items.size).1 (sliceBounds lo hi none items.size).2.1)
  generalize (sliceBounds lo hi none items.size).1.toNat = A at hm ⊢
  generalize (max (sliceBounds lo hi none items.size).1 (sliceBounds lo hi none items.size).2.1).toNat = B at hm ⊢
  have h2 := Nat.min_le_left A items.size
  have h3 := Nat.min_le_right A items.size
  generalize min A items.size = D at h2 h3 ⊢
  rw [Nat.min_self, Nat.sub_zero]
  clear h ho hs hr pl pu
  omega
theorem slice_over {vs us : List Value} {a b : Nat} (h1 : a ≤ b) (h2 : b ≤ vs.length) :
    (vs.toArray.extract 0 (sliceBounds (some (a : Int)) (some (b : Int)) none vs.toArray.size).1.toNat ++ us.toArray ++ vs.toArray.extract (max (sliceBounds (some (a : Int)) (some (b : Int)) none vs.toArray.size).1 (sliceBounds (some (a : Int)) (some (b : Int)) none vs.toArray.size).2.1).toNat vs.toArray.size)
      = (vs.take a ++ us ++ vs.drop b).toArray := by
  have e1 : (sliceBounds (some (a : Int)) (some (b : Int)) none vs.toArray.size).1 = (a : Int) := by
    simp only [sliceBounds, Option.getD_none, show (1 : Int) > 0 by decide, if_true, if_neg (show ¬ ((a : Int) < 0) by omega), List.size_toArray]
    omega
  have e2 : (sliceBounds (some (a : Int)) (some (b : Int)) none vs.toArray.size).2.1 = (b : Int) := by
    simp only [sliceBounds, Option.getD_none, show (1 : Int) > 0 by decide, if_true, if_neg (show ¬ ((b : Int) < 0) by omega), List.size_toArray]
    omega
  rw [e1, e2, show (max (a : Int) (b : Int)).toNat = b by omega, Int.toNat_natCast]
  apply Array.toList_inj.mp
  simp [List.take_of_length_le]
theorem W_SliceObj {C : Cst} {c : Fc} {m : Mp} {H : HL} {env : Env} {lower upper : Option Expr} {p : Pos} {Q : Value → Mp → HL → Prop}
    (h : W C c m H (evalPart lower env) fun vl m2 H2 => W C c m2 H2 (evalPart upper env) fun vu m3 H3 => ∀ D, Q (.ref D) m3 ((D, ({ cls := .type "slice", data := .fields #[vl, vu, .none] } : Obj)) :: H3)) :
    W C c m H (eval (.Slice lower upper none p) env) Q := fun _ _ _ T F N =>
  wpAny_Slice (h.run T F N fun _ _ _ _ _ _ T1 F1 N1 q => q.run T1 F1 N1 fun _ _ _ _ _ _ T2 F2 N2 q => wpAny_evalPart_none (Po.in T2 (F2.push _) (N2.push F2 _) (q _)))
theorem mapSeq_eq {f : Array Value → Array Value} {xs ys : Array Value} {n : Nat} (hf : f xs = ys) : Obj.mapSeq f (listOf xs n) = listOf ys (if ys.size == xs.size then n else n + 1) := by subst hf; rfl
theorem W_setSlice {C : Cst} {c : Fc} {m : Mp} {H : HL} {H' : Nat → HL} {l sl r : Addr} {vs us : List Value} {e eu a b : Nat} {ta tb : Tok} {Q : Unit → Mp → HL → Prop} (hr : (r, lstOf us eu) ∈ H) (hlr : l ≠ r) (hs : (sl, ({ cls := .type "slice", data := .fields #[.int a ta, .int b tb, .none] } : Obj)) ∈ H)
    (h1 : a ≤ b) (h2 : b ≤ vs.length) (hz : vs.length + us.length ≤ sizeLine) (U : ∀ e', At l (lstOf vs e) (lstOf (vs.take a ++ us ++ vs.drop b) e') H (H' e')) (h : ∀ e', Q () m (H' e')) : W C c m H (setItem (.ref l) (.ref sl) (.ref r)) Q := fun _ _ _ T F N => by
  refine set_slice (N.get (U 0).mem) ⟨_, N.get hr, rfl, eu, rfl⟩ hlr ⟨_, N.get hs, rfl, rfl⟩ (IsPart.int _ _) (IsPart.int _ _) (by simpa using hz) ?_
  obtain ⟨F', N'⟩ := N.upd (f := Obj.mapSeq (fun xs : Array Value => xs.extract 0 (sliceBounds (some (a : Int)) (some (b : Int)) none vs.toArray.size).1.toNat ++ us.toArray ++ xs.extract (max (sliceBounds (some (a : Int)) (some (b : Int)) none vs.toArray.size).1 (sliceBounds (some (a : Int)) (some (b : Int)) none vs.toArray.size).2.1).toNat xs.size)) F (U _) (mapSeq_eq (f := (fun xs : Array Value => xs.extract 0 (sliceBounds (some (a : Int)) (some (b : Int)) none vs.toArray.size).1.toNat ++ us.toArray ++ xs.extract (max (sliceBounds (some (a : Int)) (some (b : Int)) none vs.toArray.size).1 (sliceBounds (some (a : Int)) (some (b : Int)) none vs.toArray.size).2.1).toNat xs.size)) (slice_over (vs := vs) (us := us) h1 h2)) rfl
  exact Po.in T F' N' (h _)
noncomputable def bnd (t : Nat) : Nat := 10 * 2 ^ t - 6
theorem bnd_succ (t : Nat) : bnd (t + 1) = 2 * (bnd t + 3) := by
  unfold bnd
  have : 1 ≤ 2 ^ t := Nat.one_le_two_pow
  rw [Nat.pow_succ]
  omega
theorem bnd_mono {s t : Nat} (h : s ≤ t) : bnd s ≤ bnd t := by
  induction h with
  | refl => exact Nat.le_refl _
  | step _ ih => exact Nat.le_trans ih (by rw [bnd_succ]; omega)
theorem bnd_12 {t : Nat} (h : t ≤ 12) : bnd t ≤ 40954 := Nat.le_trans (bnd_mono h) (by decide)
structure Okk (R : List (List Int)) (ws : List Win) (t : Nat) : Prop where
  win : ∀ w ∈ ws, WinOk R w
  rl : R.length ≤ 1 + t
  xl : ∀ xs ∈ R, xs.length ≤ bnd t
  pl : ws.length ≤ 3 + t
  ne : ws ≠ []
noncomputable def TabS (qual : Str) (line col : Int) (o : Obj) (F : HL) : Prop := o = tabObj #[] ∨ ∃ c' oc, o = tabObj #[rawInt line, rawInt col, .ref c'] ∧ (c', oc) ∈ F ∧ CodeOf oc qual
theorem TabS.sub {qual : Str} {line col : Int} {o : Obj} {F F' : HL} (h : TabS qual line col o F) (s : ∀ p ∈ F, p ∈ F') : TabS qual line col o F' := by
  rcases h with h | ⟨c', oc, h1, h2, h3⟩
  · exact .inl h
  · exact .inr ⟨c', oc, h1, s _ h2, h3⟩
noncomputable abbrev qPart : Str := Str.ofString "_law_part" ++ Str.ofString ".<locals>." ++ Str.ofString "<lambda>"
noncomputable abbrev qElem : Str := Str.ofString "_law_element" ++ Str.ofString ".<locals>." ++ Str.ofString "<lambda>"
noncomputable abbrev LL (src : Addr) (o : Obj) (pl : Addr) (ps : List Value) (ep : Nat) (tp te : Obj) (A B F : HL) : HL := (src, o) :: (pl, lstOf ps ep) :: (377, tp) :: (394, te) :: (A ++ (B ++ F))
structure Inv0 (st rl : Addr) (R : List (List Int)) (ws : List Win) (t : Nat) (o : Obj) (ps : List Value) (tp te : Obj) (A B F : HL) : Prop where
  s : IsSrc o
  a : StB st R A
  b : RowsL rl R B
  p : PairsAt F ws ps
  tp : TabS qPart 230 22 tp F
  te : TabS qElem 259 22 te F
  k : Okk R ws t
noncomputable def Inv (G : HL) (src pl st rl : Addr) (R : List (List Int)) (ws : List Win) (t : Nat) (H : HL) : Prop := ∃ o ps ep tp te A B F, H = LL src o pl ps ep tp te A B F ∧ Inv0 st rl R ws t o ps tp te A B (F ++ G)
theorem WinOk.app {R R' : List (List Int)} {w : Win} (h : WinOk R w) (s : ∀ (k : Nat) (xs : List Int), R[k]? = some xs → ∃ xs' : List Int, R'[k]? = some xs' ∧ xs'.length = xs.length) : WinOk R' w := by
  cases w with
  | none => trivial
  | some w =>
    obtain ⟨k, b, l, r⟩ := w
    obtain ⟨xs, h1, h2, h3⟩ := h
    obtain ⟨xs', e1, e2⟩ := s k xs h1
    exact ⟨xs', e1, by omega, h3⟩
theorem set_lens {R : List (List Int)} {k : Nat} {xs ys : List Int} (hk : R[k]? = some xs) (hl : ys.length = xs.length) : ∀ (j : Nat) (zs : List Int), R[j]? = some zs → ∃ zs' : List Int, (R.set k ys)[j]? = some zs' ∧ zs'.length = zs.length := by
  intro j zs hj
  by_cases h : k = j
  · subst h
    rw [hk] at hj
    cases hj
    exact ⟨ys, List.getElem?_set_self (List.getElem?_eq_some_iff.mp hk).1, hl⟩
  · exact ⟨zs, by rw [List.getElem?_set_ne h]; exact hj, rfl⟩
theorem app_lens {R : List (List Int)} {ys : List Int} : ∀ (j : Nat) (zs : List Int), R[j]? = some zs → ∃ zs' : List Int, (R ++ [ys])[j]? = some zs' ∧ zs'.length = zs.length := fun j zs hj =>
  ⟨zs, by rw [List.getElem?_append_left (List.getElem?_eq_some_iff.mp hj).1]; exact hj, rfl⟩
theorem joinS_nil {R : List (List Int)} {w : Win} : joinS R w [] = (R, w) := by unfold joinS; rw [if_pos rfl]
theorem Okk.mono {R : List (List Int)} {ws : List Win} {t : Nat} (h : Okk R ws t) : Okk R ws (t + 1) :=
  ⟨h.win, Nat.le_succ_of_le h.rl, fun xs hx => Nat.le_trans (h.xl xs hx) (bnd_mono (Nat.le_succ t)), Nat.le_succ_of_le h.pl, h.ne⟩
theorem Okk.snoc {R : List (List Int)} {ws : List Win} {t : Nat} (h : Okk R ws t) {w : Win} (hw : WinOk R w) : Okk R (ws ++ [w]) (t + 1) :=
  ⟨fun x hx => by
    rcases List.mem_append.mp hx with q | q
    · exact h.win x q
    · rw [List.mem_singleton.mp q]; exact hw, Nat.le_succ_of_le h.rl, fun xs hx => Nat.le_trans (h.xl xs hx) (bnd_mono (Nat.le_succ t)), by have := h.pl; simp; omega, by simp⟩
theorem wVals_len {R : List (List Int)} {w : Win} (h : WinOk R w) : (wVals R w).length = wLen w := by
  cases w with
  | none => rfl
  | some w =>
    obtain ⟨k, b, l, r⟩ := w
    obtain ⟨xs, h1, h2, h3⟩ := h
    show (((R.getD k []).drop b).take l).length = l
    rw [List.getD_eq_getElem?_getD, h1]
    simp
    omega
theorem Okk.join {R : List (List Int)} {ws : List Win} {t : Nat} (h : Okk R ws t) {w : Win} (hw : WinOk R w) {ys : List Int} (hy : ys.length ≤ 3) : Okk (joinS R w ys).1 (ws ++ [(joinS R w ys).2]) (t + 1) := by
  unfold joinS
  split
  · exact h.snoc hw
  · rename_i hne
    have hy0 : ys.length ≠ 0 := fun z => hne (List.length_eq_zero_iff.mp z)
    split
    · rename_i hle
      cases w with
      | none => exact h.snoc trivial
      | some w =>
        obtain ⟨k, b, l, r⟩ := w
        obtain ⟨xs, h1, h2, h3⟩ := hw
        have hle : l + ys.length ≤ r := hle
        have e : R.getD k [] = xs := by rw [List.getD_eq_getElem?_getD, h1]; rfl
        have hl := wrt_len (xs := xs) (ys := ys) (j := b + l) (by omega)
        have hs := set_lens (R := R) (k := k) (ys := wrt xs (b + l) ys) h1 hl
        show Okk (R.set k (wrt (R.getD k []) (b + l) ys)) (ws ++ [some (k, b, l + ys.length, r)]) (t + 1)
        rw [e]
        refine ⟨fun x hx => ?_, by have := h.rl; simp; omega, fun zs hz => ?_, by have := h.pl; simp; omega, by simp⟩
        · rcases List.mem_append.mp hx with q | q
          · exact (h.win x q).app hs
          · rw [List.mem_singleton.mp q]
            exact ⟨_, List.getElem?_set_self (List.getElem?_eq_some_iff.mp h1).1, by omega, hle⟩
        · have hb := bnd_mono (Nat.le_succ t)
          rcases List.mem_or_eq_of_mem_set hz with q | q
          · exact Nat.le_trans (h.xl zs q) hb
          · rw [q, hl]; exact Nat.le_trans (h.xl xs (List.mem_of_getElem? h1)) hb
    · rename_i hgt
      have hv := wVals_len hw
      have hB : wLen w ≤ bnd t ∧ wRoom w ≤ bnd t := by
        cases w with
        | none => exact ⟨Nat.zero_le _, Nat.zero_le _⟩
        | some w =>
          obtain ⟨k, b, l, r⟩ := w
          obtain ⟨xs, h1, h2, h3⟩ := hw
          have := h.xl xs (List.mem_of_getElem? h1)
          exact ⟨show l ≤ _ by omega, show r ≤ _ by omega⟩
      have g1 := growF_ge (wLen w + ys.length) (r := wRoom w) (wt := wLen w + ys.length) (by omega)
      have g2 := growF_le (wLen w + ys.length) (r := wRoom w) (wt := wLen w + ys.length)
      have hlen : (wVals R w ++ ys ++ List.replicate (growN (wRoom w) (wLen w + ys.length) - (wLen w + ys.length)) 0).length = growN (wRoom w) (wLen w + ys.length) := by
        simp only [List.length_append, List.length_replicate, hv]
        unfold growN
        omega
      refine ⟨fun x hx => ?_, by have := h.rl; simp; omega, fun zs hz => ?_, by have := h.pl; simp; omega, by simp⟩
      · rcases List.mem_append.mp hx with q | q
        · exact (h.win x q).app app_lens
        · rw [List.mem_singleton.mp q]
          refine ⟨_, List.getElem?_concat_length, ?_, ?_⟩
          · rw [hlen]; omega
          · unfold growN; omega
      · rcases List.mem_append.mp hz with q | q
        · exact Nat.le_trans (h.xl zs q) (bnd_mono (Nat.le_succ t))
        · rw [List.mem_singleton.mp q, hlen, bnd_succ]
          unfold growN
          omega
theorem W_bindName {C : Cst} {c : Fc} {m : Mp} {H : HL} {env : Env} {x : Str} {v : Value} {Q : Unit → Mp → HL → Prop} (h : W C c m H (storeName env x v) Q) : W C c m H (bindName env x v) Q := fun _ _ _ T F N => wpAny_bindName (h _ _ _ T F N)
theorem W_AssignSwap {C : Cst} {c : Fc} {m : Mp} {H : HL} {env : Env} {elts : List Expr} {k : Nat} {tpos pos : Pos} {value : Expr} {names : List Str} {Qn : Mp → HL → Prop} {Qr : Value → Mp → HL → Prop}
    (h : W C c m H (eval value env) fun v m1 H1 => ∃ a vs, v = .ref a ∧ (a, tupOf vs) ∈ H1 ∧ names.length = vs.length ∧ W C c m1 H1 (assignInOrder (names.reverse.map fun n => bindName env n) vs.reverse) fun _ m2 H2 => Qn m2 H2)
    (hs : swapsWithSole [.Tuple elts k tpos] value pos.line env = pure false) (hw : swappedStores [.Tuple elts k tpos] value env = pure (some names)) :
    W C c m H (exec (.Assign [.Tuple elts k tpos] value pos) env) (SP Qn Qr) :=
  fun _ _ _ T F N => Assign_Tuple_swapped (h.run T F N fun v g h1 tk m1 H1 T1 F1 N1 q => by
    obtain ⟨a, vs, rfl, hm, hn, q⟩ := q
    rw [hn]
    refine unpackItems_tuple (items := vs.toArray) rfl ⟨_, N1.get hm, rfl, 0, rfl⟩ fun h' he => ?_
    have F' : Fr g c.L h' m1 := F1.extBut he (Nat.le_refl _)
    have N' : Led g c h' H1 := ⟨fun p hp => ⟨he _ _ (Nat.ne_of_lt (Heap.lt_size (N1.N p hp).1)) (N1.N p hp).1, (N1.N p hp).2⟩, N1.nd⟩
    exact q.run T1 F' N' fun _ _ _ _ _ _ T2 F2 N2 q => Po.in (Q := SP Qn Qr) T2 F2 N2 q) hs hw
theorem W_swapNil {C : Cst} {c : Fc} {m : Mp} {H : HL} {Q : Unit → Mp → HL → Prop} (h : Q () m H) : W C c m H (assignInOrder [] []) Q := W_inOrder_nil h
theorem W_swapCons {C : Cst} {c : Fc} {m : Mp} {H : HL} {env : Env} {x : Str} {ns : List Str} {v : Value} {vs : List Value} {Q : Unit → Mp → HL → Prop} (h : W C c m H (storeName env x v) fun _ m1 H1 => W C c m1 H1 (assignInOrder (ns.map fun n => bindName env n) vs) Q) :
    W C c m H (assignInOrder ((x :: ns).map fun n => bindName env n) (v :: vs)) Q := W_inOrder_cons (W_bindName h)
theorem W_negLit {C : Cst} {c : Fc} {m : Mp} {H : HL} {env : Env} {x : Expr} {pos : Pos} {Q : Value → Mp → HL → Prop} (h : W C c m H (eval x env) fun v m1 H1 => ∃ k t, v = .int k t ∧ ∀ t', Q (.int (-k) t') m1 H1) : W C c m H (eval (.UnaryOp .USub x pos) env) Q := fun _ _ _ T F N =>
  wpAny_UnaryOp (h.run T F N fun v g h1 tk m1 H1 T1 F1 N1 q => by
    obtain ⟨k, t, rfl, q⟩ := q
    exact PyProof.Rows.neg_int (Po.in (tk := tk + 1) T1 F1 N1 (q _)))
theorem W_lstNeg {C : Cst} {c : Fc} {m : Mp} {H : HL} {value slice : Expr} {a : Addr} {vs : List Value} {e : Nat} {k : Int} {u : Tok} {v : Value} {Q : Value → Mp → HL → Prop} (hm : (a, lstOf vs e) ∈ H) (h0 : k < 0) (h1 : 0 ≤ k + vs.length) (hx : vs[(k + vs.length).toNat]? = some v) (h : Q v m H)
    (hhi : -(2 ^ 63) ≤ k := by decide)
    (hs : subscripted slice false (.ref a) (.int k u) = operate [.ref a, .int k u] (getItem (.ref a) (.int k u)) := by with_unfolding_all rfl) :
    W C c m H (subscriptTail value slice (.ref a) (.int k u)) Q := fun _ _ _ T F N => by
  have hL : Heap.IsList _ a vs.toArray := ⟨_, N.get hm, rfl, e, rfl⟩
  exact tail_any hL.typeIs slot_list_getitem.lookup (wpAny_getItem_list_neg hL h0 (by simp; omega) hhi (by simpa using hx) (Po.in T F N h)) hs
theorem last_ok {xs : List Value} {v : Value} : 0 ≤ -1 + ((xs ++ [v]).length : Int) := by rw [List.length_append, List.length_singleton]; omega
theorem last_at {xs : List Value} {v : Value} : (xs ++ [v])[(-1 + ((xs ++ [v]).length : Int)).toNat]? = some v := by
  rw [show (-1 + ((xs ++ [v]).length : Int)).toNat = xs.length by rw [List.length_append, List.length_singleton]; omega]
  simp
noncomputable def TSub (H H' : HL) : Prop := ∀ a vs, (a, tupOf vs) ∈ H → (a, tupOf vs) ∈ H'
theorem TSub.nil {H' : HL} : TSub [] H' := fun _ _ h => nomatch h
theorem TSub.drop {H H' : HL} {a : Addr} {o : Obj} (ho : ∀ vs, o ≠ tupOf vs) (h : TSub H H') : TSub ((a, o) :: H) H' := fun b vs hm => by
  rcases List.mem_cons.mp hm with q | q
  · exact absurd (congrArg Prod.snd q).symm (ho vs)
  · exact h b vs q
theorem TSub.app {A B H' : HL} (ha : TSub A H') (hb : TSub B H') : TSub (A ++ B) H' := fun b vs hm => (List.mem_append.mp hm).elim (ha b vs) (hb b vs)
theorem TSub.of {H H' : HL} (h : ∀ p ∈ H, p ∈ H') : TSub H H' := fun _ _ hm => h _ hm
theorem TSub.cons {H H' : HL} {p : Addr × Obj} (hp : p ∈ H') (h : TSub H H') : TSub (p :: H) H' := fun b vs hm => by
  rcases List.mem_cons.mp hm with q | q
  · rw [q]; exact hp
  · exact h b vs q
theorem nt_lst {xs : List Value} {e : Nat} : ∀ vs, lstOf xs e ≠ tupOf vs := fun vs h => by
  have z : Value.type "list" = Value.type "tuple" := congrArg Obj.cls h
  exact absurd (Value.type.inj z) (by decide)
theorem nt_dat {o : Obj} {d : Data} (hd : o.data = d) (hn : ∀ xs, d ≠ .seq xs) : ∀ vs, o ≠ tupOf vs := fun vs h => hn _ (hd.symm.trans (congrArg Obj.data h))
theorem RowsAt.nt {as : List Addr} {R : List (List Int)} {A H' : HL} (h : RowsAt as R A) : TSub A H' := by
  induction h with
  | nil => exact .nil
  | cons _ _ ih => exact .drop nt_lst ih
theorem RowsL.nt {rl : Addr} {R : List (List Int)} {A H' : HL} (h : RowsL rl R A) : TSub A H' := by
  obtain ⟨as, e, X, rfl, hr⟩ := h
  exact .drop nt_lst hr.nt
theorem TabS.nt {qual : Str} {line col : Int} {o : Obj} {F : HL} (h : TabS qual line col o F) : ∀ vs, o ≠ tupOf vs := by
  rcases h with rfl | ⟨c', oc, rfl, h2, h3⟩
  · intro vs h
    exact nomatch (congrArg Obj.data h)
  · intro vs h
    exact nomatch (congrArg Obj.data h)
theorem StB.nt {st : Addr} {R : List (List Int)} {A H' : HL} (h : StB st R A) : TSub A H' := by
  obtain ⟨ds, o, mc, ca, rl, ma, k, X, rfl, hf, hr⟩ := h
  refine .drop ?_ (.drop ?_ hr.nt)
  · intro vs h
    exact nomatch (congrArg Obj.data h)
  · obtain ⟨es, n, rfl, -⟩ := hf
    intro vs h
    exact nomatch (congrArg Obj.data h)
theorem SlV.ts {w : Win} {v : Value} {F F' : HL} (h : SlV w v F) (s : TSub F F') : SlV w v F' := by
  cases w with
  | none => exact h
  | some w =>
    obtain ⟨k, b, l, r⟩ := w
    obtain ⟨a, p, q, t1, t2, t3, t4, t5, t6, h1, h2, h3, h4⟩ := h
    exact ⟨a, p, q, t1, t2, t3, t4, t5, t6, h1, s _ _ h2, s _ _ h3, s _ _ h4⟩
theorem WinV.ts {w : Win} {v : Value} {F F' : HL} (h : WinV w v F) (s : TSub F F') : WinV w v F' := by
  cases w with
  | none => exact h
  | some w =>
    obtain ⟨k, b, l, r⟩ := w
    obtain ⟨a, t1, t2, t3, t4, h1, h2⟩ := h
    exact ⟨a, t1, t2, t3, t4, h1, s _ _ h2⟩
theorem LL_app {src pl : Addr} {o tp te : Obj} {ps : List Value} {ep : Nat} {A B F G : HL} : LL src o pl ps ep tp te A B F ++ G = (src, o) :: (pl, lstOf ps ep) :: (377, tp) :: (394, te) :: (A ++ (B ++ (F ++ G))) := by simp [LL, List.append_assoc]
theorem Inv.out {G X F : HL} {src pl st rl : Addr} {R : List (List Int)} {ws : List Win} {t : Nat} {o tp te : Obj} {ps : List Value} {ep : Nat} {A B : HL} {v : Value} {m : Mp} {Q : Value → Mp → HL → Prop} (I : Inv0 st rl R ws t o ps tp te A B (X ++ (F ++ G)))
    (h : ∀ R' ws' H', Inv G src pl st rl R' ws' t H' → Q v m (H' ++ G)) : Q v m ((src, o) :: (pl, lstOf ps ep) :: (377, tp) :: (394, te) :: (A ++ (B ++ (X ++ (F ++ G))))) := by
  have z := h R ws _ ⟨o, ps, ep, tp, te, A, B, X ++ F, rfl, by rw [List.append_assoc]; exact I⟩
  rw [LL_app, List.append_assoc] at z
  exact z
theorem Inv.in {C : Cst} {c : Fc} {G H0 : HL} {src pl st rl : Addr} {R : List (List Int)} {ws : List Win} {t : Nat} {m : Mp} {α : Type} {x : Sem α} {Q : α → Mp → HL → Prop} (hI : Inv G src pl st rl R ws t H0)
    (h : ∀ o ps ep tp te A B F FG, Inv0 st rl R ws t o ps tp te A B FG → FG = F ++ G → W C c m ((src, o) :: (pl, lstOf ps ep) :: (377, tp) :: (394, te) :: (A ++ (B ++ FG))) x Q) : W C c m (H0 ++ G) x Q := by
  obtain ⟨o, ps, ep, tp, te, A, B, F, rfl, I⟩ := hI
  rw [LL_app]
  exact h o ps ep tp te A B F _ I rfl
theorem IsSrc.nt {o : Obj} (h : IsSrc o) : ∀ vs, o ≠ tupOf vs := by
  obtain ⟨x, y, tx, ty, e, rfl, -⟩ := h
  exact nt_lst
theorem Inv.fin {G X F F1 FX H : HL} {src pl st rl : Addr} {R : List (List Int)} {ws : List Win} {t : Nat} {o tp te : Obj} {ps : List Value} {ep : Nat} {A B : HL} {v : Value} {m : Mp} {Q : Value → Mp → HL → Prop} (hF : F = F1 ++ G) (h : ∀ R' ws' H', Inv G src pl st rl R' ws' t H' → Q v m (H' ++ G))
    (hX : FX = X ++ F) (I : Inv0 st rl R ws t o ps tp te A B FX) (l : Le ((src, o) :: (pl, lstOf ps ep) :: (377, tp) :: (394, te) :: (A ++ (B ++ FX))) H) : Dr (Q v m) H := by
  subst hF hX
  exact ⟨_, l, Inv.out I h⟩
theorem Inv0.push {st rl : Addr} {R R' : List (List Int)} {ws : List Win} {t t' : Nat} {o o' tp te : Obj} {ps : List Value} {A B A' B' X F : HL} {w : Win} {a : Addr} {v u : Value} (I : Inv0 st rl R ws t o ps tp te A B F) (ho : IsSrc o') (hA : StB st R' A') (hB : RowsL rl R' B') (hk : Okk R' (ws ++ [w]) t') (hs : ∀ p ∈ F, p ∈ X)
    (h1 : (a, tupOf [v, u]) ∈ X) (h2 : SlV w v X) (h3 : WinV w u X) : Inv0 st rl R' (ws ++ [w]) t' o' (ps ++ [.ref a]) tp te A' B' X :=
  ⟨ho, hA, hB, (I.p.sub hs).snoc h1 h2 h3, I.tp.sub hs, I.te.sub hs, hk⟩
theorem Okk.put {R : List (List Int)} {ws : List Win} {t k : Nat} {zs ys : List Int} (h : Okk R ws t) (hz : R[k]? = some zs) (hl : ys.length = zs.length) : Okk (R.set k ys) ws (t + 1) :=
  ⟨fun x hx => (h.win x hx).app (set_lens hz hl), by have := h.rl; simp; omega, fun xs hx => by
    have hb := bnd_mono (Nat.le_succ t)
    rcases List.mem_or_eq_of_mem_set hx with q | q
    · exact Nat.le_trans (h.xl xs q) hb
    · rw [q, hl]; exact Nat.le_trans (h.xl zs (List.mem_of_getElem? hz)) hb, by have := h.pl; omega, h.ne⟩
theorem W_cutM {C : Cst} {c : Fc} {m : Mp} {H : HL} {env : Env} {st : Stmt} {rest : List Stmt} {Qn : Mp → HL → Prop} {Qr : Value → Mp → HL → Prop} (R : Mp → Mp → Prop)
    (h : W C c m H (exec st env) (SP (fun m1 H1 => R m m1 ∧ Le H H1) fun _ _ _ => False)) (k : ∀ m1, R m m1 → W C c m1 H (execs rest env) (SP Qn Qr)) : W C c m H (execs (st :: rest) env) (SP Qn Qr) :=
  W_cons (h.mono (SP.mono (fun _ _ q => W.le q.2 (k _ q.1)) fun _ _ _ q => q.elim))
noncomputable abbrev wBeg (w : Win) : Nat := match w with | none => 0 | some (_, b, _, _) => b
noncomputable def wRow (w : Win) : Value → Prop := fun v => match w with | none => True | some (k, _, _, _) => ∃ t, v = .int k t
theorem WinOk.bd {R : List (List Int)} {ws : List Win} {t : Nat} (K : Okk R ws t) {w : Win} (h : WinOk R w) : wLen w ≤ bnd t ∧ wRoom w ≤ bnd t ∧ wBeg w + wLen w ≤ bnd t := by
  cases w with
  | none => exact ⟨Nat.zero_le _, Nat.zero_le _, Nat.zero_le _⟩
  | some w =>
    obtain ⟨k, b, l, r⟩ := w
    obtain ⟨xs, h1, h2, h3⟩ := h
    have := K.xl xs (List.mem_of_getElem? h1)
    exact ⟨show l ≤ _ by omega, show r ≤ _ by omega, show b + l ≤ _ by omega⟩
theorem joinS_in {R : List (List Int)} {k b l r : Nat} {xs zs : List Int} (q : xs ≠ []) (h : l + xs.length ≤ r) (hz : R[k]? = some zs) : joinS R (some (k, b, l, r)) xs = (R.set k (wrt zs (b + l) xs), some (k, b, l + xs.length, r)) := by
  unfold joinS
  rw [if_neg q, if_pos (show wLen (some (k, b, l, r)) + xs.length ≤ wRoom (some (k, b, l, r)) from h)]
  show (R.set k (wrt (R.getD k []) (b + l) xs), some (k, b, l + xs.length, r)) = _
  rw [List.getD_eq_getElem?_getD, hz]
  rfl
theorem joinS_out {R : List (List Int)} {w : Win} {xs : List Int} (q : xs ≠ []) (h : ¬ wLen w + xs.length ≤ wRoom w) : joinS R w xs = (R ++ [wVals R w ++ xs ++ List.replicate (growN (wRoom w) (wLen w + xs.length) - (wLen w + xs.length)) 0], some (R.length, 0, wLen w + xs.length, growN (wRoom w) (wLen w + xs.length))) := by
  unfold joinS
  rw [if_neg q, if_neg h]
theorem W_setSliceI {C : Cst} {c : Fc} {m : Mp} {H : HL} {H' : Nat → HL} {l sl r : Addr} {vs us : List Value} {e eu a b : Nat} {ai bi : Int} {ta tb : Tok} {Q : Unit → Mp → HL → Prop} (hr : (r, lstOf us eu) ∈ H) (hlr : l ≠ r) (hs : (sl, ({ cls := .type "slice", data := .fields #[.int ai ta, .int bi tb, .none] } : Obj)) ∈ H)
    (ea : ai = a) (eb : bi = b) (h1 : a ≤ b) (h2 : b ≤ vs.length) (hz : vs.length + us.length ≤ sizeLine) (U : ∀ e', At l (lstOf vs e) (lstOf (vs.take a ++ us ++ vs.drop b) e') H (H' e')) (h : ∀ e', Q () m (H' e')) : W C c m H (setItem (.ref l) (.ref sl) (.ref r)) Q := by
  subst ea eb
  exact W_setSlice hr hlr hs h1 h2 hz U h
theorem W_setSliceB {C : Cst} {c : Fc} {m : Mp} {H A F : HL} {A' : Nat → HL} {l sl r : Addr} {vs us : List Value} {e eu a b : Nat} {ai bi : Int} {ta tb : Tok} {Q : Unit → Mp → HL → Prop} (hp : Pk A H F) (hr : (r, lstOf us eu) ∈ F) (hlr : l ≠ r) (hs : (sl, ({ cls := .type "slice", data := .fields #[.int ai ta, .int bi tb, .none] } : Obj)) ∈ F)
    (ea : ai = a) (eb : bi = b) (h1 : a ≤ b) (h2 : b ≤ vs.length) (hz : vs.length + us.length ≤ sizeLine) (U : ∀ e', At l (lstOf vs e) (lstOf (vs.take a ++ us ++ vs.drop b) e') A (A' e')) (h : ∀ e', Q () m (A' e' ++ F)) : W C c m H (setItem (.ref l) (.ref sl) (.ref r)) Q :=
  W.le hp.le (W_setSliceI (List.mem_append_right _ hr) hlr (List.mem_append_right _ hs) ea eb h1 h2 hz (fun e' => (U e').appR _) h)
theorem nd_ne {a b : Addr} {o o' : Obj} {r : HL} (h : (((a, o) :: r).map (·.1)).Nodup) (hb : (b, o') ∈ r) : b ≠ a := fun z => (List.nodup_cons.mp h).1 (z ▸ List.mem_map_of_mem (f := (·.1)) hb)
theorem ints_take {vs : List Value} {xs : List Int} (h : IntsAre vs xs) : ∀ j, IntsAre (vs.take j) (xs.take j) := by
  induction h with
  | nil => intro j; simp; exact .nil
  | cons n t _ ih =>
    intro j
    cases j with
    | zero => exact .nil
    | succ j => exact .cons n t (ih j)
theorem ints_drop {vs : List Value} {xs : List Int} (h : IntsAre vs xs) : ∀ j, IntsAre (vs.drop j) (xs.drop j) := by
  induction h with
  | nil => intro j; simp; exact .nil
  | cons n t h ih =>
    intro j
    cases j with
    | zero => exact .cons n t h
    | succ j => exact ih j
theorem wrt_ints {vs ys : List Value} {zs xs : List Int} {j : Nat} (h : IntsAre vs zs) (h2 : IntsAre ys xs) : IntsAre (vs.take j ++ ys ++ vs.drop (j + ys.length)) (wrt zs j xs) := by
  unfold wrt
  rw [h2.length]
  exact ((ints_take h j).append h2).append (ints_drop h _)
open PyProof.Rows.LCg in
set_option linter.unusedSimpArgs false in
theorem sp_lawJoined {C : Cst} {c : Fc} {n : Nat} {m : Mp} {H0 G : HL} (O : Ok C c (n + 16)) {src pl st rl : Addr} {R : List (List Int)} {ws : List Win} {t : Nat} {Q : Value → Mp → HL → Prop} (ht : t < 12)
    (hI : Inv G src pl st rl R ws t H0) (h : ∀ R' ws' H', Inv G src pl st rl R' ws' (t + 1) H' → Q (.bool true) m (H' ++ G)) : W C c m (H0 ++ G) (call (.ref 392) [.ref src, .ref st, .ref pl, .ref rl]) Q := by
  refine Inv.in hI fun o ps ep tp te A B F0 F I hF0 => ?_
  have hpl := I.p.len
  have hkl := I.k.pl
  have hne : ps ≠ [] := fun z => I.k.ne (List.length_eq_zero_iff.mp (by rw [← hpl, z]; rfl))
  have hb12 := bnd_12 (Nat.le_of_lt ht)
  have hrl := I.k.rl
  have hS := I.a
  obtain ⟨ds, oS, mc₀, ca, sl, ma, kk, X0, hA, hf, hrS⟩ := id hS
  subst hA
  have hB0 := I.b
  obtain ⟨asB, eB, XB, hB, hrB⟩ := id hB0
  subst hB
  refine' W_defC (n := n + 15) (binds := [("source", .ref src), ("store", .ref st), ("pairs", .ref pl), ("rows", .ref rl)]) (upd (upd (upd emp "store" (.ref st)) "pairs" (.ref pl)) "rows" (.ref rl)) (upd emp "source" (.ref src)) O ?ho ?hcd ?hb ?hkd ?hnd ?eL ?eC ?_ ?c1 ?c2 ?c3
  ((try case hm => k_is); (try case hi => k_is); (try case hf => k_is); (case ho => k_is); (case hcd => k_is); (case hb => first | rfl | exact fun _ => rfl); (try case hl => first | rfl | exact fun _ => rfl); (try case hkd => rfl); (try case hnd => decide); (try case eL => rfl); (try case eC => rfl); (case c1 => rfl); (case c2 => rfl); (case c3 => rfl); (try case c4 => decide); intros; (try simp only [mOf, List.foldl]); (first | (refine W.letE ?_; intro _ _ _) | (refine WX.letE ?_; intro _ _ _ _)))
  rename_i L cells O1 Y cF QnF QrF
  obtain ⟨o1, rfl, d1⟩ := CellsAre.one Y
  have d1 : o1.data = .cell (some (.ref src)) := d1
  (with_reducible refine W_consQ ?_; intro _ _ _; with_reducible refine W_AssignTuple ?_; intro _; with_reducible refine W_callG ?_; intro _; with_reducible refine W_items_cons ?_; intro _; with_reducible refine W_cell ?_; with_reducible refine W_itemsL ?_; intro _; with_reducible refine W_items_nil ?_)
  refine sp_one (n := n + 13) (by assumption) (by k_extra "pk") I.s (by k_extra "mm") hne (by omega) fun i v o' hi ho' => ?_
  obtain ⟨w, p, v1, u, hwi, rfl, hp, hv, hu⟩ := I.p.get hi
  have hw := I.k.win w (List.mem_of_getElem? hwi)
  (with_reducible refine W_unpack ?_; with_reducible refine W_eachName ?_; with_reducible refine W_store ?_; with_reducible refine W_eachName ?_; with_reducible refine W_store ?_; with_reducible refine W_eachNil ?_; with_reducible refine W_consQ ?_; intro _ _ _)
  refine' W_AssignComp ?hsw ?hyl ?hkc ?h1 ?h2 ?h3 ?h4 ?h5 ?_
  case hsw => rfl
  case hyl => rfl
  case hkc => rfl
  case h1 => rfl
  case h2 => decide
  case h3 => rfl
  case h4 => decide
  case h5 => rfl
  (with_reducible refine W_CallName ?_; intro _; with_reducible refine W_bltn ?_; with_reducible refine W_callT ?_; intro _; with_reducible refine W_items_cons ?_; intro _; with_reducible refine W_callG ?_; intro _; with_reducible refine W_items_cons ?_; intro _; with_reducible refine W_cell ?_; with_reducible refine W_itemsI ?_; intro _ _; with_reducible refine W_items_nil ?_)
  refine sp_takeP (n := n + 14) (by assumption) (by k_extra "pk") ho' (by decide) (by decide) fun k tk o2 ho2 hk0 hk4 => ?_
  (with_reducible refine W_items_nil ?_)
  refine W_range (by omega) (by omega) fun it X hX => ?_
  refine ⟨k.toNat, _, _, _, it, X, _, fun i ys m' H' => m' = (upd (upd (upd (upd (upd emp "store" (.ref st)) "pairs" (.ref pl)) "rows" (.ref rl)) "value" v1) "window" u) ∧ ∃ o3 xs, IsSrc o3 ∧ IntsAre ys xs ∧ H' = (src, o3) :: (L + 1, o1) :: (pl, lstOf ps ep) :: (377, tp) :: (394, te) :: (((st, instObj 275 ds) :: (ds, oS) :: X0) ++ (((rl, lstOf (asB.map Value.ref) eB) :: XB) ++ F)), ⟨rfl, It_range, ?le, hX, trivial, rfl, _, [], ho2, .nil, rfl⟩, Self_range, by simp only [sizeLine_eq]; omega, fun _ => trivial, ?_, ?_⟩
  case le => exact Le.rfl
  · rintro i v ys m' H' X' D oC mc A' e hi hyl ⟨⟨t, rfl⟩, hX'⟩ _ ⟨rfl, o3, xs, ho3, hys, rfl⟩ hC hm
    refine W_tests_nil ⟨fun _ => ?_, fun q => nomatch q⟩
    (with_reducible refine W_BinOp ?_; intro _; with_reducible refine W_int ?_; intro _; with_reducible refine W_CallName ?_; intro _; with_reducible refine W_cGlob ?_; with_reducible refine W_callK ?_; intro _; with_reducible refine W_items_cons ?_; intro _; with_reducible refine W_cCell ?_; with_reducible refine W_itemsI ?_; intro _ _; with_reducible refine W_items_nil ?_)
    refine sp_takeP (n := n + 14) (by assumption) (by k_extra "pk") ho3 (by decide) (by decide) fun q tq o4 ho4 hq0 hq9 => ?_
    (with_reducible refine W_add ?_; intro _)
    refine ⟨X', oC, mc, _, ?_, hX', hC, trivial, rfl, o4, xs ++ [100 + q], ho4, hys.append (.cons _ _ .nil), rfl⟩
    k_extra "le"
  · rintro ys m' H' A' e hyl _ ⟨rfl, o3, xs, ho3, hys, rfl⟩
    have hxs : xs.length ≤ 3 := by have := hys.length; omega
    (with_reducible refine W_consQ ?_; intro _ _ _; with_reducible refine W_assignN ?_; intro _; with_reducible refine W_methL ?_; intro _; with_reducible refine W_itemsL ?_; intro _; with_reducible refine W_itemsL ?_; intro _; with_reducible refine W_itemsI ?_; intro _ _; with_reducible refine W_items_nil ?_)
    refine sp_joined (n := n + 3) (by assumption) (by k_extra "pk") hS (hv.sub fun p hp => ?_) hw (by k_extra "mm") hys (by omega) (fun zs hz => Nat.le_trans (I.k.xl zs hz) (by omega)) (by omega) fun A2 v2 X2 hS2 hv2 => ?_
    · k_extra "mm"
    have hv3 : SlV (joinS R w xs).2 v2 (X2 ++ F) := hv2.ts (.app (.of fun p hp => List.mem_append_left _ hp) (.drop nt_lst (.drop ho3.nt (.drop (nt_dat d1 nofun) (.drop nt_lst (.drop I.tp.nt (.drop I.te.nt (.app I.b.nt (.of fun p hp => List.mem_append_right _ hp)))))))))
    have hK := I.k.join hw hxs
    refine W_cutM (fun m m1 => ∃ vr t1 t2 t3, wRow w vr ∧ m1 = upd (upd (upd (upd m "row" vr) "begin" (.int (wBeg w) t1)) "length" (.int (wLen w) t2)) "room" (.int (wRoom w) t3)) ?_ ?_
    · cases w with
      | none =>
        obtain rfl : u = .none := hu
        (with_reducible refine W_AssignTuple ?_; intro _; with_reducible refine W_IfExp ?_; intro _; with_reducible refine W_isNoneN ?_; with_reducible refine w_condt ?_; with_reducible refine W_Tuple ?_; intro _; with_reducible refine W_items_cons ?_; intro _; with_reducible refine W_none ?_; with_reducible refine W_itemsI ?_; intro _ _; with_reducible refine W_itemsI ?_; intro _ _; with_reducible refine W_itemsI ?_; intro _ _; with_reducible refine W_items_nil ?_; with_reducible refine W_newTuple ?_; intro _; with_reducible refine W_unpack ?_; with_reducible refine W_eachName ?_; with_reducible refine W_store ?_; with_reducible refine W_eachName ?_; with_reducible refine W_store ?_; with_reducible refine W_eachName ?_; with_reducible refine W_store ?_; with_reducible refine W_eachName ?_; with_reducible refine W_store ?_; with_reducible refine W_eachNil ?_)
        refine ⟨⟨_, _, _, _, trivial, rfl⟩, ?_⟩
        k_extra "le"
      | some w =>
        obtain ⟨wk, wb, wl, wr⟩ := w
        obtain ⟨ua, u1, u2, u3, u4, rfl, hua⟩ := id hu
        (with_reducible refine W_AssignTuple ?_; intro _; with_reducible refine W_IfExp ?_; intro _; with_reducible refine W_isNoneR ?_; with_reducible refine w_condf ?_; with_reducible refine W_local ?_; with_reducible refine W_unpack ?_; with_reducible refine W_eachName ?_; with_reducible refine W_store ?_; with_reducible refine W_eachName ?_; with_reducible refine W_store ?_; with_reducible refine W_eachName ?_; with_reducible refine W_store ?_; with_reducible refine W_eachName ?_; with_reducible refine W_store ?_; with_reducible refine W_eachNil ?_)
        exact ⟨⟨_, _, _, _, ⟨_, rfl⟩, rfl⟩, .rfl⟩
    rintro m1 ⟨vr, w1, w2, w3, hvr, rfl⟩
    obtain ⟨b1, b2, b3⟩ := hw.bd I.k
    (with_reducible refine W_consQ ?_; intro _ _ _; with_reducible refine W_If ?_; intro _; with_reducible refine W_isTrue_Compare ?_; intro _; with_reducible refine W_local ?_; with_reducible refine W_List ?_; intro _; with_reducible refine W_items_nil ?_; with_reducible refine W_newList ?_; intro _)
    refine W_eqInts (n := n + 8) (by assumption) (by k_extra "mm") (by k_extra "mm") hys .nil ?_
    (with_reducible refine W_truthy_bool ?_)
    refine ⟨fun q => ?_, fun q => ?_⟩
    · have q : xs = [] := by simpa using q
      subst q
      rw [joinS_nil] at hS2 hv3 hK
      (with_reducible refine W_consQ ?_; intro _ _ _; with_reducible refine W_Expr ?_; intro _; with_reducible refine W_Method ?_; intro _; with_reducible refine W_local ?_; with_reducible refine W_getAppend ?_; with_reducible refine W_callB ?_; intro _; with_reducible refine W_items_cons ?_; intro _; with_reducible refine W_Tuple ?_; intro _; with_reducible refine W_itemsL ?_; intro _; with_reducible refine W_itemsL ?_; intro _; with_reducible refine W_items_nil ?_; with_reducible refine W_newTuple ?_; intro _; with_reducible refine W_items_nil ?_)
      refine W_append (vs := ps) (by repeat (first | exact At.head | apply At.tail | (apply At.app))) ?_ (by simp only [sizeLine_eq]; omega)
      (with_reducible refine W_consQ ?_; intro _ _ _; with_reducible refine W_Return ?_; with_reducible refine W_true ?_)
      refine' Inv.fin (X := (?pa1, tupOf [v2, u]) :: X2) (FX := (?pa1, tupOf [v2, u]) :: (X2 ++ F)) (A := A2) (B := ((rl, lstOf (asB.map Value.ref) eB) :: XB)) (ps := ps ++ [.ref _]) (st := st) (rl := rl) hF0 h rfl ?II1 ?ll1
      case ll1 => k_extra "le"
      case II1 => exact I.push ho3 hS2 I.b hK (fun p hp => .tail _ (List.mem_append_right _ hp)) (.head _) (hv3.sub fun p hp => .tail _ hp) (hu.sub fun p hp => .tail _ (List.mem_append_right _ hp))
    · have q : xs ≠ [] := by simpa using q
      have q0 : xs.length ≠ 0 := fun z => q (List.length_eq_zero_iff.mp z)
      (with_reducible refine W_nil ?_; with_reducible refine W_consQ ?_; intro _ _ _; with_reducible refine W_If ?_; intro _; with_reducible refine W_isTrue_Compare ?_; intro _; with_reducible refine W_BinOp ?_; intro _; with_reducible refine W_local ?_; with_reducible refine W_CallName ?_; intro _; with_reducible refine W_bltn ?_; with_reducible refine W_callB0 ?_; intro _; with_reducible refine W_itemsL ?_; intro _; with_reducible refine W_items_nil ?_)
      refine W_len (vs := ys) (by k_extra "mm") (fun t3 => ?_) (by have := hys.length; omega)
      rw [hys.length]
      (with_reducible refine W_add ?_; intro _; with_reducible refine W_local ?_; with_reducible refine W_le ?_; with_reducible refine W_truthy_bool ?_)
      refine ⟨fun q2 => ?_, fun q2 => ?_⟩
      · have q2 : wLen w + xs.length ≤ wRoom w := by have := of_decide_eq_true q2; omega
        cases w with
        | none => exact absurd q2 (show ¬ (0 + xs.length ≤ 0) by omega)
        | some w =>
          obtain ⟨wk, wb, wl, wr⟩ := w
          obtain ⟨tk, rfl⟩ := hvr
          obtain ⟨zs, hz1, hz2, hz3⟩ := id hw
          have q3 : wl + xs.length ≤ wr := q2
          have hkR : wk < R.length := (List.getElem?_eq_some_iff.mp hz1).1
          have hzl := I.k.xl zs (List.mem_of_getElem? hz1)
          rw [joinS_in q q3 hz1] at hS2 hv3 hK
          obtain ⟨ra, rvs, re, g1, g2, g3, g4⟩ := hrB.at hz1
          have hrl2 := g2.length
          have hyl2 := hys.length
          (with_reducible refine W_consQ ?_; intro _ _ _; with_reducible refine W_AssignItem ?_; intro _; with_reducible refine W_local ?_; with_reducible refine W_Subscript ?_; intro _; with_reducible refine W_local ?_; with_reducible refine W_local ?_)
          refine W_lstItem (by k_extra "mm") (by omega) (get_map_ref' g1) ?_ (by omega)
          skip
          with_reducible refine W_SliceObj ?_
          (with_reducible refine W_part1 ?_; with_reducible refine W_BinOp ?_; intro _; with_reducible refine W_local ?_; with_reducible refine W_local ?_; with_reducible refine W_add ?_; intro _; with_reducible refine W_part1 ?_; with_reducible refine W_BinOp ?_; intro _; with_reducible refine W_BinOp ?_; intro _; with_reducible refine W_local ?_; with_reducible refine W_local ?_; with_reducible refine W_add ?_; intro _; with_reducible refine W_CallName ?_; intro _; with_reducible refine W_bltn ?_; with_reducible refine W_callB0 ?_; intro _; with_reducible refine W_itemsL ?_; intro _; with_reducible refine W_items_nil ?_)
          refine W_len (vs := ys) (by k_extra "mm") (fun t6 => ?_) (by omega)
          rw [hyl2]
          (with_reducible refine W_add ?_; intro _)
          intro D
          refine W.nd fun nd => ?_
          have hne2 : ra ≠ A' := by
            refine nd_ne (o := lstOf ys e) (r := ((rl, lstOf (asB.map Value.ref) eB) :: XB) ++ []) (Le.nd ?_ nd) (List.mem_append_left _ (.tail _ g3))
            k_extra "le"
          have hwi := wrt_ints (j := wb + wl) g2 hys
          obtain ⟨f, hf2⟩ : ∃ f : Nat → HL, ∀ e', At ra (lstOf rvs re) (lstOf (rvs.take (wb + wl) ++ ys ++ rvs.drop (wb + wl + ys.length)) e') XB (f e') ∧ RowsAt asB (R.set wk (wrt zs (wb + wl) xs)) (f e') := ⟨fun e' => (g4 _ e' _ hwi).choose, fun e' => (g4 _ e' _ hwi).choose_spec⟩
          refine W_setSliceB (A := (rl, lstOf (asB.map Value.ref) eB) :: XB) (A' := fun e' => (rl, lstOf (asB.map Value.ref) eB) :: f e') (vs := rvs) (us := ys) (a := wb + wl) (b := wb + wl + ys.length) (by k_extra "pk") (by k_extra "mm") hne2 (by k_extra "mm") (by show ((wb : Nat) : Int) + ((wl : Nat) : Int) = ((wb + wl : Nat) : Int); omega) (by show ((wb : Nat) : Int) + ((wl : Nat) : Int) + ((xs.length : Nat) : Int) = ((wb + wl + ys.length : Nat) : Int); omega) (by omega) (by omega) (by simp only [sizeLine_eq]; omega) (fun e' => .tail (hf2 e').1) (fun e' => ?_)
          (with_reducible refine W_nil ?_; with_reducible refine W_consQ ?_; intro _ _ _; with_reducible refine W_Expr ?_; intro _; with_reducible refine W_Method ?_; intro _; with_reducible refine W_local ?_; with_reducible refine W_getAppend ?_; with_reducible refine W_callB ?_; intro _; with_reducible refine W_items_cons ?_; intro _; with_reducible refine W_Tuple ?_; intro _; with_reducible refine W_itemsL ?_; intro _; with_reducible refine W_items_cons ?_; intro _; with_reducible refine W_Tuple ?_; intro _; with_reducible refine W_itemsL ?_; intro _; with_reducible refine W_itemsL ?_; intro _; with_reducible refine W_items_cons ?_; intro _; with_reducible refine W_BinOp ?_; intro _; with_reducible refine W_local ?_; with_reducible refine W_CallName ?_; intro _; with_reducible refine W_bltn ?_; with_reducible refine W_callB0 ?_; intro _; with_reducible refine W_itemsL ?_; intro _; with_reducible refine W_items_nil ?_)
          refine W_len (vs := ys) (by k_extra "mm") (fun t3 => ?_) (by omega)
          rw [hyl2]
          (with_reducible refine W_add ?_; intro _; with_reducible refine W_itemsL ?_; intro _; with_reducible refine W_items_nil ?_; with_reducible refine W_newTuple ?_; intro _; with_reducible refine W_items_nil ?_; with_reducible refine W_newTuple ?_; intro _; with_reducible refine W_items_nil ?_)
          refine W_append (vs := ps) (by repeat (first | exact At.head | apply At.tail | (apply At.app))) ?_ (by simp only [sizeLine_eq]; omega)
          (with_reducible refine W_consQ ?_; intro _ _ _; with_reducible refine W_Return ?_; with_reducible refine W_true ?_)
          refine' Inv.fin (X := (?pa2, tupOf [v2, .ref ?wa2]) :: (?wa2, tupOf [_, _, _, _]) :: X2) (FX := (?pa2, tupOf [v2, .ref ?wa2]) :: (?wa2, tupOf [_, _, _, _]) :: (X2 ++ F)) (A := A2) (B := ((rl, lstOf (asB.map Value.ref) eB) :: f e')) (ps := ps ++ [.ref _]) (st := st) (rl := rl) hF0 h rfl ?II2 ?ll2
          case ll2 => k_extra "le"
          case II2 => exact I.push ho3 hS2 ⟨_, _, _, rfl, (hf2 e').2⟩ hK (fun p hp => .tail _ (.tail _ (List.mem_append_right _ hp))) (.head _) (hv3.sub fun p hp => .tail _ (.tail _ hp)) (WinV.of (.tail _ (.head _)) rfl rfl (by show ((wl : Nat) : Int) + ((xs.length : Nat) : Int) = ((wl + xs.length : Nat) : Int); omega) rfl)
      · have q2 : ¬ wLen w + xs.length ≤ wRoom w := by have := of_decide_eq_false q2; omega
        (with_reducible refine W_consQ ?_; intro _ _ _; with_reducible refine W_assignN ?_; intro _; with_reducible refine W_BinOp ?_; intro _; with_reducible refine W_callG ?_; intro _; with_reducible refine W_itemsL ?_; intro _; with_reducible refine W_itemsL ?_; intro _; with_reducible refine W_items_nil ?_)
        refine sp_values (n := n + 14) (w := w) (R := R) (by assumption) (by k_extra "pk") hB0 (hu.sub fun p hp => by k_extra "mm") hw (by omega) (fun zs hz => Nat.le_trans (I.k.xl zs hz) (by omega)) fun D vs eD hvs => ?_
        have hvl := hvs.length.trans (wVals_len hw)
        have hyl2 := hys.length
        rw [joinS_out q q2] at hS2 hv3 hK
        (with_reducible refine W_local ?_)
        refine W_addL (vs := vs) (ws := ys) (by k_extra "mm") (by k_extra "mm") (fun D2 => ?_) (by simp only [sizeLine_eq]; omega)
        (with_reducible refine W_consQ ?_; intro _ _ _; with_reducible refine W_Expr ?_; intro _; with_reducible refine W_Method ?_; intro _; with_reducible refine W_local ?_; with_reducible refine W_getAppend ?_; with_reducible refine W_callB ?_; intro _; with_reducible refine W_items_cons ?_; intro _; with_reducible refine W_BinOp ?_; intro _; with_reducible refine W_local ?_; with_reducible refine W_BinOp ?_; intro _; with_reducible refine W_List ?_; intro _; with_reducible refine W_itemsI ?_; intro _ _; with_reducible refine W_items_nil ?_; with_reducible refine W_newList ?_; intro _; with_reducible refine W_BinOp ?_; intro _; with_reducible refine W_callG ?_; intro _; with_reducible refine W_itemsL ?_; intro _; with_reducible refine W_items_cons ?_; intro _; with_reducible refine W_CallName ?_; intro _; with_reducible refine W_bltn ?_; with_reducible refine W_callB0 ?_; intro _; with_reducible refine W_itemsL ?_; intro _; with_reducible refine W_items_nil ?_)
        have hv5 : (vs ++ ys).length = wLen w + xs.length := by rw [List.length_append, hvl, hyl2]
        refine W_len (vs := vs ++ ys) (by k_extra "mm") (fun t4 => ?_) (by omega)
        rw [hv5]
        (with_reducible refine W_items_nil ?_)
        refine sp_grown (n := n + 14) (r0 := wRoom w) (by assumption) (by omega) (by omega) fun t5 => ?_
        (with_reducible refine W_CallName ?_; intro _; with_reducible refine W_bltn ?_; with_reducible refine W_callB0 ?_; intro _; with_reducible refine W_itemsL ?_; intro _; with_reducible refine W_items_nil ?_)
        refine W_len (vs := vs ++ ys) (by k_extra "mm") (fun t4 => ?_) (by omega)
        rw [hv5]
        have hG1 : wLen w + xs.length ≤ growN (wRoom w) (wLen w + xs.length) := growF_ge _ (by omega)
        have hG2 : growN (wRoom w) (wLen w + xs.length) ≤ 100000 := by have := growF_le (wLen w + xs.length) (r := wRoom w) (wt := wLen w + xs.length); unfold growN; omega
        generalize growN (wRoom w) (wLen w + xs.length) = gr at *
        (with_reducible refine W_sub ?_; intro _)
        refine W_mul1 (by k_extra "mm") (by omega) (by omega) fun D3 => ?_
        have hgl : ((gr : Nat) : Int) - ((wLen w + xs.length : Nat) : Int) = ((gr - (wLen w + xs.length) : Nat) : Int) := by omega
        rw [hgl, Int.toNat_natCast]
        skip
        refine W_addL (vs := vs ++ ys) (by k_extra "mm") (by k_extra "mm") (fun D4 => ?_) (by simp only [sizeLine_eq, List.length_replicate]; omega)
        (with_reducible refine W_items_nil ?_)
        have hrBl := hrB.len
        refine W_append (vs := asB.map Value.ref) (by repeat (first | exact At.head | apply At.tail)) ?_ (by simp only [sizeLine_eq, List.length_map]; omega)
        (with_reducible refine W_consQ ?_; intro _ _ _)
        refine' W_AssignSwap ?_ ?hs1 ?hw1
        case hs1 => rfl
        case hw1 => rfl
        (with_reducible refine W_Tuple ?_; intro _; with_reducible refine W_items_cons ?_; intro _; with_reducible refine W_BinOp ?_; intro _; with_reducible refine W_CallName ?_; intro _; with_reducible refine W_bltn ?_; with_reducible refine W_callB0 ?_; intro _; with_reducible refine W_itemsL ?_; intro _; with_reducible refine W_items_nil ?_)
        refine W_len (vs := asB.map Value.ref ++ [Value.ref D4]) (by k_extra "mm") (fun t4 => ?_) (by simp only [List.length_map, List.length_append, List.length_singleton]; omega)
        (with_reducible refine W_int ?_; intro _; with_reducible refine W_sub ?_; intro _; with_reducible refine W_itemsI ?_; intro _ _; with_reducible refine W_items_cons ?_; intro _; with_reducible refine W_CallName ?_; intro _; with_reducible refine W_bltn ?_; with_reducible refine W_callB0 ?_; intro _; with_reducible refine W_items_cons ?_; intro _; with_reducible refine W_Subscript ?_; intro _; with_reducible refine W_local ?_)
        with_reducible refine W_negLit ?_
        (with_reducible refine W_int ?_; intro _)
        refine ⟨_, _, rfl, fun t8 => ?_⟩
        skip
        refine W_lstNeg (vs := asB.map Value.ref ++ [Value.ref D4]) (v := .ref D4) (by k_extra "mm") (by decide) last_ok last_at ?_
        (with_reducible refine W_items_nil ?_)
        refine W_len (by k_extra "mm") (fun t9 => ?_) ?sz1
        case sz1 => simp only [List.length_append, List.length_replicate, hv5]; omega
        (with_reducible refine W_items_nil ?_; with_reducible refine W_newTuple ?_; intro _)
        refine ⟨_, _, rfl, .head _, rfl, ?_⟩
        refine W_swapCons ?_
        (with_reducible refine W_store ?_)
        refine W_swapCons ?_
        (with_reducible refine W_store ?_)
        refine W_swapCons ?_
        (with_reducible refine W_store ?_)
        refine W_swapNil ?_
        (with_reducible refine W_nil ?_; with_reducible refine W_consQ ?_; intro _ _ _; with_reducible refine W_Expr ?_; intro _; with_reducible refine W_Method ?_; intro _; with_reducible refine W_local ?_; with_reducible refine W_getAppend ?_; with_reducible refine W_callB ?_; intro _; with_reducible refine W_items_cons ?_; intro _; with_reducible refine W_Tuple ?_; intro _; with_reducible refine W_itemsL ?_; intro _; with_reducible refine W_items_cons ?_; intro _; with_reducible refine W_Tuple ?_; intro _; with_reducible refine W_itemsL ?_; intro _; with_reducible refine W_itemsL ?_; intro _; with_reducible refine W_items_cons ?_; intro _; with_reducible refine W_BinOp ?_; intro _; with_reducible refine W_local ?_; with_reducible refine W_CallName ?_; intro _; with_reducible refine W_bltn ?_; with_reducible refine W_callB0 ?_; intro _; with_reducible refine W_itemsL ?_; intro _; with_reducible refine W_items_nil ?_)
        refine W_len (vs := ys) (by k_extra "mm") (fun t3 => ?_) (by have := hys.length; omega)
        rw [hys.length]
        (with_reducible refine W_add ?_; intro _; with_reducible refine W_itemsL ?_; intro _; with_reducible refine W_items_nil ?_; with_reducible refine W_newTuple ?_; intro _; with_reducible refine W_items_nil ?_; with_reducible refine W_newTuple ?_; intro _; with_reducible refine W_items_nil ?_)
        refine W_append (vs := ps) (by repeat (first | exact At.head | apply At.tail | (apply At.app))) ?_ (by simp only [sizeLine_eq]; omega)
        (with_reducible refine W_consQ ?_; intro _ _ _; with_reducible refine W_Return ?_; with_reducible refine W_true ?_)
        refine' Inv.fin (X := (?pa3, tupOf [v2, .ref ?wa3]) :: (?wa3, tupOf [_, _, _, _]) :: X2) (FX := (?pa3, tupOf [v2, .ref ?wa3]) :: (?wa3, tupOf [_, _, _, _]) :: (X2 ++ F)) (A := A2) (B := (rl, lstOf (asB.map Value.ref ++ [Value.ref D4]) (eB + 1)) :: (XB ++ [(D4, _)])) (ps := ps ++ [.ref _]) (st := st) (rl := rl) hF0 h rfl ?II3 (Le.trans (Le.cons (Le.cons (Le.cons (Le.cons (Le.app (Le_move [(rl, _)] XB _)))))) ?ll3)
        case ll3 => k_extra "le"
        case II3 => exact I.push ho3 hS2 ⟨asB ++ [D4], _, _, by rw [List.map_append]; rfl, hrB.snoc ((hvs.append hys).append ints_rep)⟩ hK (fun p hp => .tail _ (.tail _ (List.mem_append_right _ hp))) (.head _) (hv3.sub fun p hp => .tail _ (.tail _ hp)) (WinV.of (.tail _ (.head _)) (by simp only [List.length_append, List.length_map, List.length_singleton]; omega) rfl (by omega) (by simp only [List.length_append, List.length_replicate]; omega))
theorem sp_lawCopied {C : Cst} {c : Fc} {n : Nat} {m : Mp} {H0 G : HL} (O : Ok C c (n + 16)) {src pl st rl : Addr} {R : List (List Int)} {ws : List Win} {t : Nat} {Q : Value → Mp → HL → Prop} (ht : t < 12)
    (hI : Inv G src pl st rl R ws t H0) (h : ∀ R' ws' H', Inv G src pl st rl R' ws' (t + 1) H' → Q (.bool true) m (H' ++ G)) : W C c m (H0 ++ G) (call (.ref 406) [.ref src, .ref st, .ref pl, .ref rl]) Q := by
  refine Inv.in hI fun o ps ep tp te A B F0 F I hF0 => ?_
  have hpl := I.p.len
  have hkl := I.k.pl
  have hne : ps ≠ [] := fun z => I.k.ne (List.length_eq_zero_iff.mp (by rw [← hpl, z]; rfl))
  have hb12 := bnd_12 (Nat.le_of_lt ht)
  have hrl := I.k.rl
  have hS := I.a
  obtain ⟨ds, oS, mc₀, ca, sl, ma, kk, X0, hA, hf, hrS⟩ := id hS
  subst hA
  have hB0 := I.b
  obtain ⟨asB, eB, XB, hB, hrB⟩ := id hB0
  subst hB
  refine' W_def (n := n + 15) (binds := [("source", .ref src), ("store", .ref st), ("pairs", .ref pl), ("rows", .ref rl)]) O ?ho ?hcd ?hb ?hl ?_ ?c1 ?c2 ?c3 ?c4
  ((try case hm => k_is); (try case hi => k_is); (try case hf => k_is); (case ho => k_is); (case hcd => k_is); (case hb => first | rfl | exact fun _ => rfl); (try case hl => first | rfl | exact fun _ => rfl); (try case hkd => rfl); (try case hnd => decide); (try case eL => rfl); (try case eC => rfl); (case c1 => rfl); (case c2 => rfl); (case c3 => rfl); (try case c4 => decide); intros; (try simp only [mOf, List.foldl]); (first | (refine W.letE ?_; intro _ _ _) | (refine WX.letE ?_; intro _ _ _ _)))
  with_reducible refine W_cons ?_
  refine' W_AssignSwap ?_ ?hs1 ?hw1
  case hs1 => rfl
  case hw1 => rfl
  (with_reducible refine W_Tuple ?_; intro _; with_reducible refine W_items_cons ?_; intro _; with_reducible refine W_callG ?_; intro _; with_reducible refine W_itemsL ?_; intro _; with_reducible refine W_itemsL ?_; intro _; with_reducible refine W_items_nil ?_)
  refine sp_one (n := n + 13) (by assumption) (by k_extra "pk") I.s (by k_extra "mm") hne (by omega) fun i v o' hi ho' => ?_
  obtain ⟨w, p, v1, u, hwi, rfl, hp, hv, hu⟩ := I.p.get hi
  have hw := I.k.win w (List.mem_of_getElem? hwi)
  (with_reducible refine W_items_cons ?_; intro _; with_reducible refine W_callG ?_; intro _; with_reducible refine W_itemsL ?_; intro _; with_reducible refine W_itemsL ?_; intro _; with_reducible refine W_items_nil ?_)
  refine sp_one (n := n + 13) (by assumption) (by k_extra "pk") ho' (by k_extra "mm") hne (by omega) fun i2 v2 o2 hi2 ho2 => ?_
  obtain ⟨w2, p2, v2, u2, hwi2, rfl, hp2, hv2, hu2⟩ := I.p.get hi2
  have hw2 := I.k.win w2 (List.mem_of_getElem? hwi2)
  (with_reducible refine W_items_nil ?_; with_reducible refine W_newTuple ?_; intro _)
  refine ⟨_, _, rfl, .head _, rfl, ?_⟩
  refine W_swapCons ?_
  (with_reducible refine W_store ?_)
  refine W_swapCons ?_
  (with_reducible refine W_store ?_)
  refine W_swapNil ?_
  (with_reducible refine W_consQ ?_; intro _ _ _; with_reducible refine W_assignN ?_; intro _; with_reducible refine W_slice ?_; intro _; with_reducible refine W_callG ?_; intro _; with_reducible refine W_items_cons ?_; intro _; with_reducible refine W_tupL ?_; with_reducible refine W_itemsL ?_; intro _; with_reducible refine W_items_nil ?_)
  refine sp_values (n := n + 14) (w := w2) (R := R) (by assumption) (by k_extra "pk") hB0 (hu2.sub fun p hp => by k_extra "mm") hw2 (by omega) (fun zs hz => Nat.le_trans (I.k.xl zs hz) (by omega)) fun D vs eD hvs => ?_
  have hvl := hvs.length.trans (wVals_len hw2)
  obtain ⟨b1, b2, b3⟩ := hw.bd I.k
  obtain ⟨b4, b5, b6⟩ := hw2.bd I.k
  (with_reducible refine W_part0 ?_; with_reducible refine W_part1 ?_; with_reducible refine W_IfExp ?_; intro _; with_reducible refine W_isTrue_Compare ?_; intro _; with_reducible refine W_tupL ?_; with_reducible refine W_none ?_)
  cases w with
  | none =>
    obtain rfl : u = .none := hu
    (with_reducible refine W_is_none_none ?_; with_reducible refine W_truthy_bool ?_; with_reducible refine w_condt ?_; with_reducible refine W_int ?_; intro _)
    refine SliceX.list (vs := vs) (by k_extra "mm") IsPart.none (IsPart.int _ _) (by simp only [sizeLine_eq]; omega) fun D2 => ?_
    (with_reducible refine W_consQ ?_; intro _ _ _; with_reducible refine W_If ?_; intro _; with_reducible refine W_isTrue_Compare ?_; intro _; with_reducible refine W_tupL ?_; with_reducible refine W_none ?_; with_reducible refine W_is_none_none ?_; with_reducible refine W_truthy_bool ?_; with_reducible refine w_condt ?_; with_reducible refine W_consQ ?_; intro _ _ _; with_reducible refine W_Return ?_; with_reducible refine W_true ?_)
    refine' Inv.fin (X := []) (FX := F) (A := (st, instObj 275 ds) :: (ds, oS) :: X0) (B := ((rl, lstOf (asB.map Value.ref) eB) :: XB)) (ps := ps) (st := st) (rl := rl) hF0 h rfl ?II1 ?ll1
    case ll1 => k_extra "le"
    case II1 => exact ⟨ho2, hS, hB0, I.p, I.tp, I.te, I.k.mono⟩
  | some w =>
    obtain ⟨wk, wb, wl, wr⟩ := w
    obtain ⟨ua, u1, u2', u3, u4, rfl, hua⟩ := id hu
    obtain ⟨zs, hz1, hz2, hz3⟩ := id hw
    have hkR : wk < R.length := (List.getElem?_eq_some_iff.mp hz1).1
    have hzl := I.k.xl zs (List.mem_of_getElem? hz1)
    (with_reducible refine W_is_ref_none ?_; with_reducible refine W_truthy_bool ?_; with_reducible refine w_condf ?_; with_reducible refine W_Subscript ?_; intro _; with_reducible refine W_tupL ?_; with_reducible refine W_int ?_; intro _; with_reducible refine W_tupItem ?_)
    refine SliceX.list (vs := vs) (by k_extra "mm") IsPart.none (IsPart.int _ _) (by simp only [sizeLine_eq]; omega) fun D2 => ?_
    have hys := kmk_upto (y := (wl : Int)) hvs (by omega)
    rw [Int.toNat_natCast] at hys
    generalize (slicePick vs.toArray none (some (wl : Int)) none).toList = us at *
    (with_reducible refine W_consQ ?_; intro _ _ _; with_reducible refine W_If ?_; intro _; with_reducible refine W_isTrue_Compare ?_; intro _; with_reducible refine W_tupL ?_; with_reducible refine W_none ?_; with_reducible refine W_is_ref_none ?_; with_reducible refine W_truthy_bool ?_; with_reducible refine w_condf ?_; with_reducible refine W_nil ?_; with_reducible refine W_consQ ?_; intro _ _ _; with_reducible refine W_Expr ?_; intro _; with_reducible refine W_methL ?_; intro _; with_reducible refine W_items_cons ?_; intro _; with_reducible refine W_tupL ?_; with_reducible refine W_itemsI ?_; intro _ _; with_reducible refine W_items_cons ?_; intro _; with_reducible refine W_slice ?_; intro _; with_reducible refine W_methL ?_; intro _; with_reducible refine W_items_cons ?_; intro _; with_reducible refine W_tupL ?_; with_reducible refine W_items_nil ?_)
    refine sp_listed (n := n + 12) (by assumption) (by k_extra "pk") hS (hv2.sub fun p hp => by k_extra "mm") hw2 (by omega) (fun zs hz => Nat.le_trans (I.k.xl zs hz) (by omega)) fun D3 vs3 e3 hvs3 => ?_
    (with_reducible refine W_part0 ?_; with_reducible refine W_part1 ?_; with_reducible refine W_Subscript ?_; intro _; with_reducible refine W_tupL ?_; with_reducible refine W_int ?_; intro _; with_reducible refine W_tupItem ?_)
    have hvl3 := hvs3.length.trans (wVals_len hw2)
    refine SliceX.list (vs := vs3) (by k_extra "mm") IsPart.none (IsPart.int _ _) (by simp only [sizeLine_eq]; omega) fun D4 => ?_
    have hys3 := kmk_upto (y := (wl : Int)) hvs3 (by omega)
    rw [Int.toNat_natCast] at hys3
    generalize (slicePick vs3.toArray none (some (wl : Int)) none).toList = us3 at *
    have hyl : ((wVals R w2).take wl).length ≤ wl := by simp; omega
    generalize (wVals R w2).take wl = ys at *
    have hul := hys.length
    (with_reducible refine W_items_nil ?_)
    refine sp_put (bg := 0) (n := n + 11) (by assumption) (by k_extra "pk") hS (hv.sub fun p hp => by k_extra "mm") (by k_extra "mm") hys3 hz1 (by omega) (by omega) (by omega) fun A2 hS2 => ?_
    (with_reducible refine W_consQ ?_; intro _ _ _; with_reducible refine W_AssignItem ?_; intro _; with_reducible refine W_local ?_; with_reducible refine W_Subscript ?_; intro _; with_reducible refine W_local ?_; with_reducible refine W_Subscript ?_; intro _; with_reducible refine W_tupL ?_; with_reducible refine W_int ?_; intro _; with_reducible refine W_tupItem ?_)
    obtain ⟨ra, rvs, re, g1, g2, g3, g4⟩ := hrB.at hz1
    have hrl2 := g2.length
    refine W_lstItem (by k_extra "mm") (by omega) (get_map_ref' g1) ?_ (by omega)
    skip
    with_reducible refine W_SliceObj ?_
    (with_reducible refine W_part1 ?_; with_reducible refine W_Subscript ?_; intro _; with_reducible refine W_tupL ?_; with_reducible refine W_int ?_; intro _; with_reducible refine W_tupItem ?_; with_reducible refine W_part1 ?_; with_reducible refine W_BinOp ?_; intro _; with_reducible refine W_Subscript ?_; intro _; with_reducible refine W_tupL ?_; with_reducible refine W_int ?_; intro _; with_reducible refine W_tupItem ?_; with_reducible refine W_CallName ?_; intro _; with_reducible refine W_bltn ?_; with_reducible refine W_callB0 ?_; intro _; with_reducible refine W_itemsL ?_; intro _; with_reducible refine W_items_nil ?_)
    refine W_len (vs := us) (by k_extra "mm") (fun t6 => ?_) (by omega)
    rw [hul]
    (with_reducible refine W_add ?_; intro _)
    intro Dx
    refine W.nd fun nd => ?_
    have hne2 : ra ≠ D2 := by
      refine nd_ne (o := lstOf us 0) (r := ((rl, lstOf (asB.map Value.ref) eB) :: XB) ++ []) (Le.nd ?_ nd) (List.mem_append_left _ (.tail _ g3))
      k_extra "le"
    have hwi := wrt_ints (j := wb) g2 hys
    obtain ⟨f, hf2⟩ : ∃ f : Nat → HL, ∀ e', At ra (lstOf rvs re) (lstOf (rvs.take wb ++ us ++ rvs.drop (wb + us.length)) e') XB (f e') ∧ RowsAt asB (R.set wk (wrt zs wb ys)) (f e') := ⟨fun e' => (g4 _ e' _ hwi).choose, fun e' => (g4 _ e' _ hwi).choose_spec⟩
    refine W_setSliceB (A := (rl, lstOf (asB.map Value.ref) eB) :: XB) (A' := fun e' => (rl, lstOf (asB.map Value.ref) eB) :: f e') (vs := rvs) (us := us) (a := wb) (b := wb + us.length) (by k_extra "pk") (by k_extra "mm") hne2 (by k_extra "mm") (by rfl) (by omega) (by omega) (by omega) (by simp only [sizeLine_eq]; omega) (fun e' => .tail (hf2 e').1) (fun e' => ?_)
    (with_reducible refine W_consQ ?_; intro _ _ _; with_reducible refine W_Return ?_; with_reducible refine W_true ?_)
    refine' Inv.fin (X := []) (FX := F) (A := A2) (B := ((rl, lstOf (asB.map Value.ref) eB) :: f e')) (ps := ps) (st := st) (rl := rl) hF0 h rfl ?II1 ?ll1
    case ll1 => k_extra "le"
    case II1 => exact ⟨ho2, hS2, ⟨_, _, _, rfl, (hf2 e').2⟩, I.p, I.tp, I.te, I.k.put hz1 (wrt_len (by omega))⟩
theorem EqL.bytes {C : Cst} {c : Fc} {H : HL} {k : Nat} {a b : Array UInt8} {t u : Tok} : EqL C c H k (.bytes a t) (.bytes b u) (decide (a.toList = b.toList)) := fun _ _ _ _ _ _ _ _ _ _ _ hq => eqBool_bytes hq
theorem EqL.str {C : Cst} {c : Fc} {H : HL} {k : Nat} {a b : Str} {t u : Tok} : EqL C c H k (.str a t) (.str b u) (a == b) := fun _ _ _ _ _ _ _ => SeqAt.EqAt.str_str a t b u
theorem pair_range {r0 r1 : Bool} : (((List.range (min 2 2)).all fun j => if j = 0 then r0 else r1) && (2 == 2)) = (r0 && r1) := by
  show ((List.range 2).all _ && true) = _
  simp [List.range_succ]
theorem EqL.rc {C : Cst} {c : Fc} {H : HL} {k : Nat} {a b : Addr} {x0 x1 y0 y1 : Value} {r0 r1 : Bool} (ha : (a, tupOf [x0, x1]) ∈ H) (hb : (b, tupOf [y0, y1]) ∈ H) (h0 : EqL C c H k x0 y0 r0) (h1 : EqL C c H k x1 y1 r1)
    (A : Around) (g h : Heap) (tk : Nat) (hA : A.handled = none) (hu : A.units + (k + 1) < cLine) (N : Led g c h H) : ∀ j (j1 : j < [x0, x1].toArray.size) (j2 : j < [y0, y1].toArray.size), SeqAt.EqAt A.in1 (C.sh h tk) [x0, x1].toArray[j] [y0, y1].toArray[j] (if j = 0 then r0 else r1) := fun j j1 j2 => by
  have hu1 : A.in1.units + k < cLine := by show A.units + 1 + k < cLine; omega
  have z : j = 0 ∨ j = 1 := by simp at j1; omega
  rcases z with rfl | rfl
  · exact h0 A.in1 g h tk hA hu1 N
  · exact h1 A.in1 g h tk hA hu1 N
theorem EqL.pair {C : Cst} {c : Fc} {H : HL} {k : Nat} {a b : Addr} {x0 x1 y0 y1 : Value} {r0 r1 : Bool} (ha : (a, tupOf [x0, x1]) ∈ H) (hb : (b, tupOf [y0, y1]) ∈ H) (h0 : EqL C c H k x0 y0 r0) (h1 : EqL C c H k x1 y1 r1)
    (hr : x0 = y0 → x1 = y1 → (r0 && r1) = true) : EqL C c H (k + 1) (.ref a) (.ref b) (r0 && r1) := fun A g h tk hA hu N => by
  by_cases z : a = b
  · subst z
    have q := (N.get ha).symm.trans (N.get hb)
    have q2 : [x0, x1] = [y0, y1] := by
      have q3 := congrArg Obj.data (Option.some.inj q)
      injection q3 with q4
      injection q4
    injection q2 with e1 e2
    injection e2 with e2
    rw [hr e1 e2]
    exact SeqAt.EqAt.same _
  · have rc := SeqAt.RcAt.tuples (s := C.sh h tk) ⟨_, N.get ha, rfl, 0, rfl⟩ ⟨_, N.get hb, rfl, 0, rfl⟩ (show A.units < cLine by omega) (EqL.rc ha hb h0 h1 A g h tk hA hu N)
    exact SeqAt.EqAt.of_refs z (pair_range ▸ rc)
theorem W_eqPair {C : Cst} {c : Fc} {n : Nat} {m : Mp} {H : HL} (O : Ok C c (n + 1)) {a b : Addr} {x0 x1 y0 y1 : Value} {r0 r1 : Bool} {Q : Value → Mp → HL → Prop} (ha : (a, tupOf [x0, x1]) ∈ H) (hb : (b, tupOf [y0, y1]) ∈ H) (h0 : EqL C c H 8 x0 y0 r0) (h1 : EqL C c H 8 x1 y1 r1)
    (h : Q (.bool (r0 && r1)) m H) : W C c m H (compareOp .Eq (.ref a) (.ref b)) Q := fun _ hh tk T F N => by
  have hu : c.A.units + (8 + 1) < cLine := by have := O.hu; show c.un + 9 < cLine; omega
  have rc := SeqAt.RcAt.tuples (s := C.sh hh tk) ⟨_, N.get ha, rfl, 0, rfl⟩ ⟨_, N.get hb, rfl, 0, rfl⟩ (show c.A.units < cLine by omega) (EqL.rc ha hb h0 h1 c.A _ hh tk rfl hu N)
  exact (pair_range ▸ rc) _ _ _ _ (Po.in T F N h)
theorem W_nePair {C : Cst} {c : Fc} {n : Nat} {m : Mp} {H : HL} (O : Ok C c (n + 1)) {a b : Addr} {x0 x1 y0 y1 : Value} {r0 r1 : Bool} {Q : Value → Mp → HL → Prop} (ha : (a, tupOf [x0, x1]) ∈ H) (hb : (b, tupOf [y0, y1]) ∈ H) (h0 : EqL C c H 8 x0 y0 r0) (h1 : EqL C c H 8 x1 y1 r1)
    (h : Q (.bool (!(r0 && r1))) m H) : W C c m H (compareOp .NotEq (.ref a) (.ref b)) Q := fun _ hh tk T F N => by
  have hu : c.A.units + (8 + 1) < cLine := by have := O.hu; show c.un + 9 < cLine; omega
  have rc := SeqAt.RcNeAt.tuples (s := C.sh hh tk) ⟨_, N.get ha, rfl, 0, rfl⟩ ⟨_, N.get hb, rfl, 0, rfl⟩ (show c.A.units < cLine by omega) (EqL.rc ha hb h0 h1 c.A _ hh tk rfl hu N)
  exact (pair_range ▸ rc) _ _ _ _ (Po.in T F N h)
theorem W_bytes {C : Cst} {c : Fc} {m : Mp} {H : HL} {env : Env} {x : List UInt8} {k : Nat} {pos : Pos} {Q : Value → Mp → HL → Prop} (h : ∀ t, Q (.bytes x.toArray t) m H) : W C c m H (eval (.Constant (.bytes x) k pos) env) Q :=
  fun _ _ tk T F N => Constant_bytes (Po.in (tk := tk + 1) T F N (h _))
theorem W_storeCP {C : Cst} {c : Fc} {m : Mp} {H F : HL} {x : Str} {v : Value} {a : Addr} {o : Obj} {v₀ : Option Value} {Q : Unit → Mp → HL → Prop} (hc : c.cl.lookup x = some a) (hp : Pk [(a, o)] H F) (ho : o.data = .cell v₀)
    (h : ∀ o', o'.data = .cell (some v) → Q () m ((a, o') :: F)) (hk : c.cs.kind = .function := by rfl) (hx : c.env.kindOf x = some .cell := by rfl) : W C c m H (storeName c.env x v) Q :=
  W.le hp.le (W_storeC (o := o) (g := fun o' => (a, o') :: F) hc (fun _ => .head) ho h hk hx)
theorem CodeOf.nt {oc : Obj} {q : Str} (h : CodeOf oc q) : ∀ vs, oc ≠ tupOf vs := by
  obtain ⟨vs, t, h1, -⟩ := h
  exact nt_dat h1 nofun
theorem W_lamTab {C : Cst} {c : Fc} {n : Nat} {m : Mp} {H F : HL} {params : Arguments} {body : Expr} {scope : Scope} {pos : Pos} {clos : List (Str × Addr)} {cc PT : Addr} {o : Obj} {qual : Str} {line col : Int} {Q : Value → Mp → HL → Prop} (O : Ok C c n)
    (hcd : c.ccd = .ref cc) (hC : codeHdIn (Mine.kk C.w.params) cc PT = true) (hp : Pk [(PT, o)] H F) {FT : HL} (ht : TabS qual line col o FT) (hs : ∀ p ∈ FT, p ∈ F) (hl : (pos.line : Int) = line) (hcol : (pos.col : Int) = col) (hq : c.env.qual ++ "<lambda>" = qual)
    (hcl : closureFor scope c.env = pure clos) (hdef : defaultsOf params c.env = ([], []))
    (h : ∀ f c' oc ctv pm X, (c', oc) ∈ X ++ FT → (∀ vs, oc ≠ tupOf vs) → (∀ H, TSub X H) → CodeOf oc qual → Q (.ref f) m ((f, kla_obj "<lambda>" qual params body scope clos pm c' ctv) :: (X ++ (PT, tabObj #[rawInt line, rawInt col, .ref c']) :: F))) :
    W C c m H (eval (.Lambda params body scope pos) c.env) Q := by
  subst hl hcol hq
  refine W.le hp.le ?_
  rcases ht with rfl | ⟨c', oc, rfl, h2, h3⟩
  · refine W_lamNew (PT := PT) (ps := #[]) (g := fun o' => (PT, o') :: F) O hcd hC (fun _ => .head) True.intro rfl hcl hdef fun f c' oc ctv pm hoc => ?_
    exact h f c' oc ctv pm [(c', oc)] (.head _) hoc.nt (fun _ => .drop hoc.nt .nil) hoc
  · refine W_lamHit (c' := c') (PT := PT) (ps := #[rawInt pos.line, rawInt pos.col, .ref c']) O hcd hC (.head _) (by simp [TriplesOk, rawInt]) (by simp [codeAmong, rawInt]) hcl hdef fun f ctv pm => ?_
    exact h f c' oc ctv pm [] h2 h3.nt (fun _ => .nil) h3
theorem W_unpackL {C : Cst} {c : Fc} {m : Mp} {H : HL} {env : Env} {elts : List Expr} {k : Nat} {pos : Pos} {a : Addr} {vs : List Value} {e : Nat} {Q : Unit → Mp → HL → Prop} (hm : (a, lstOf vs e) ∈ H) (h : W C c m H (assignInOrder ((assignEach elts env).map (·.2)) vs) Q)
    (hn : (assignEach elts env).length = vs.length := by rfl) (hst : (assignEach elts env).findIdx? (·.1) = none := by rfl) : W C c m H (assign (.Tuple elts k pos) env (.ref a)) Q := fun g hh tk T F N => by
  refine kun_list (items := vs.toArray) F N.N ⟨_, N.get hm, rfl, e, rfl⟩ rfl (by simpa using hn) hst fun h' F' N' => ?_
  simpa using h g h' tk T F' ⟨N', N.nd⟩
theorem W_cutC {C : Cst} {c : Fc} {m : Mp} {H F : HL} {env : Env} {st : Stmt} {rest : List Stmt} {a : Addr} {o : Obj} {Qn : Mp → HL → Prop} {Qr : Value → Mp → HL → Prop} (hp : Pk [(a, o)] H F) (P : Obj → Prop) (R : Mp → Mp → Prop)
    (h : W C c m H (exec st env) (SP (fun m1 H1 => ∃ o', P o' ∧ R m m1 ∧ Le ((a, o') :: F) H1) fun _ _ _ => False)) (k : ∀ m1 o', P o' → R m m1 → W C c m1 ((a, o') :: F) (execs rest env) (SP Qn Qr)) : W C c m H (execs (st :: rest) env) (SP Qn Qr) :=
  W_cons (h.mono (SP.mono (fun _ _ q => by
    obtain ⟨o', h1, h2, l⟩ := q
    exact W.le l (k _ _ h1 h2)) fun _ _ _ q => q.elim))
theorem W_ifNoneC {C : Cst} {c : Fc} {m : Mp} {H : HL} {y : Str} {p1 p2 p3 p4 p5 : Pos} {k : Nat} {a : Expr} {o : Option Nat} {d : Nat} {vy : Value} {ay : Addr} {oy : Obj} {Q : Value → Mp → HL → Prop} (ho : OptV o vy) (hc : c.cl.lookup y = some ay) (hm : (ay, oy) ∈ H) (hdy : oy.data = .cell (some vy))
    (ha : W C c m H (eval a c.env) fun v m1 H1 => (∃ t, v = .int (d : Int) t) ∧ m1 = m ∧ H1 = H) (h : ∀ t, Q (.int ((o.getD d : Nat) : Int) t) m H)
    (hk : c.cs.kind = .function) (hx : c.env.kindOf y = some .cell) (hd : (y == ("__debug__" : Str)) = false) :
    W C c m H (eval (.IfExp (.Compare (.Name y p1) [.Is] [.Constant .none k p2] p3) a (.Name y p4) p5) c.env) Q := by
  refine W.cut (fun v => ∃ t, v = .int ((o.getD d : Nat) : Int) t) ?_ fun v q => by obtain ⟨t, rfl⟩ := q; exact h t
  with_reducible refine W_IfExp ?_
  with_reducible refine W_isTrue_Compare ?_
  refine W_cell ?_ hx.symm hk.symm hd hc hm hdy
  with_reducible refine W_none ?_
  cases o with
  | none =>
    obtain rfl : vy = .none := ho
    refine W_is_none_none (W_truthy_bool (cond_t rfl ?_))
    exact ha
  | some x =>
    obtain ⟨t, rfl⟩ : ∃ t, vy = .int (x : Int) t := ho
    refine W_is_int_none (W_truthy_bool (cond_f rfl ?_))
    exact W_cell ⟨⟨t, rfl⟩, rfl, rfl⟩ hx.symm hk.symm hd hc hm hdy
theorem W_setItemB {C : Cst} {c : Fc} {m : Mp} {H A A' F : HL} {a : Addr} {vs : List Value} {e j : Nat} {t : Tok} {v : Value} {Q : Unit → Mp → HL → Prop} (hp : Pk A H F) (hn : j < vs.length) (U : At a (lstOf vs e) (lstOf (vs.set j v) e) A A') (hhi : (j : Int) < 2 ^ 63) (h : Q () m (A' ++ F)) :
    W C c m H (setItem (.ref a) (.int (j : Int) t) v) Q := W.le hp.le (W_setItemN hn (U.appR F) hhi h)
theorem Le.ofSub {p : Addr × Obj} {H H2 : HL} (s : ∀ q ∈ H, q ∈ H2) (nd : (H.map (·.1)).Nodup) : Le (p :: H) (p :: H2) := ⟨fun q hq => by
  rcases List.mem_cons.mp hq with rfl | hq
  · exact .head _
  · exact .tail _ (s q hq), fun nd2 => by
  rw [List.map_cons] at nd2 ⊢
  refine List.nodup_cons.mpr ⟨fun z => (List.nodup_cons.mp nd2).1 ?_, nd⟩
  obtain ⟨q, hq, e⟩ := List.mem_map.mp z
  exact List.mem_map.mpr ⟨q, s q hq, e⟩⟩
theorem sp_lawElement {C : Cst} {c : Fc} {n : Nat} {m : Mp} {H0 G : HL} (O : Ok C c (n + 16)) (hdp : c.dp = 302) (hun : c.un = 7) {src pl st rl : Addr} {R : List (List Int)} {ws : List Win} {t : Nat} {Q : Value → Mp → HL → Prop} (ht : t < 12)
    (hI : Inv G src pl st rl R ws t H0) (h : ∀ R' ws' H', Inv G src pl st rl R' ws' (t + 1) H' → Q (.bool true) m (H' ++ G)) : W C c m (H0 ++ G) (call (.ref 399) [.ref src, .ref st, .ref pl, .ref rl]) Q := by
  refine Inv.in hI fun o ps ep tp te A B F0 F I hF0 => ?_
  have hpl := I.p.len
  have hkl := I.k.pl
  have hne : ps ≠ [] := fun z => I.k.ne (List.length_eq_zero_iff.mp (by rw [← hpl, z]; rfl))
  have hb12 := bnd_12 (Nat.le_of_lt ht)
  have hrl := I.k.rl
  have hS := I.a
  obtain ⟨ds, oS, mc₀, ca, sl, ma, kk, X0, hA, hf, hrS⟩ := id hS
  subst hA
  have hB0 := I.b
  obtain ⟨asB, eB, XB, hB, hrB⟩ := id hB0
  subst hB
  refine' W_defCz (n := n + 15) (binds := [("source", .ref src), ("store", .ref st), ("pairs", .ref pl), ("rows", .ref rl)]) (upd (upd (upd emp "source" (.ref src)) "pairs" (.ref pl)) "rows" (.ref rl)) (upd emp "store" (.ref st)) O ?ho ?hcd ?hb ?hkd ?hnd ?eL ?eC ?_ ?c1 ?c2 ?c3
  case ho => k_is
  case hcd => k_is
  case hb => rfl
  case hkd => rfl
  case hnd => decide
  case eL => rfl
  case eC => rfl
  case c1 => rfl
  case c2 => rfl
  case c3 => rfl
  intros
  rename_i L cells O1 Y
  generalize hcl : cellsFrom (L + 1) _ [] = cl at O1 Y ⊢
  obtain ⟨ad3, ad2, ad1, rfl⟩ : ∃ ad3 ad2 ad1 : Addr, cl = [(Str.ofString "value", ad3), (Str.ofString "at", ad2), (Str.ofString "store", ad1)] := ⟨_, _, _, hcl.symm.trans rfl⟩
  clear hcl
  refine W.letE ?_
  intro cF QnF QrF
  obtain ⟨o1, o2, o3, rfl, d1, d2, d3⟩ := CellsAre.three Y
  have d1 : o1.data = .cell none := d1
  have d2 : o2.data = .cell none := d2
  have d3 : o3.data = .cell (some (.ref st)) := d3
  (with_reducible refine W_consQ ?_; intro _ _ _; with_reducible refine W_AssignTuple ?_; intro _; with_reducible refine W_callG ?_; intro _; with_reducible refine W_itemsL ?_; intro _; with_reducible refine W_itemsL ?_; intro _; with_reducible refine W_items_nil ?_)
  refine sp_one (n := n + 13) (by assumption) (by k_extra "pk") I.s (by k_extra "mm") hne (by omega) fun i v o' hi ho' => ?_
  obtain ⟨w, p, v1, u, hwi, rfl, hp, hv, hu⟩ := I.p.get hi
  have hw := I.k.win w (List.mem_of_getElem? hwi)
  (with_reducible refine W_unpack ?_; with_reducible refine W_eachName ?_)
  refine W_storeCP (o := o1) rfl (by k_extra "p1") d1 (fun o1' d1' => ?_)
  (with_reducible refine W_eachName ?_)
  (with_reducible refine W_store ?_)
  (with_reducible refine W_eachNil ?_)
  refine W_cutM (fun m m1 => ∃ t2, m1 = upd m "length" (.int (wLen w) t2)) ?_ ?_
  · cases w with
    | none =>
      obtain rfl : u = .none := hu
      (with_reducible refine W_assignN ?_; intro _; with_reducible refine W_IfExp ?_; intro _; with_reducible refine W_isNoneN ?_; with_reducible refine w_condt ?_; with_reducible refine W_int ?_; intro _)
      exact ⟨⟨_, rfl⟩, .rfl⟩
    | some w =>
      obtain ⟨wk, wb, wl, wr⟩ := w
      obtain ⟨ua, u1, u2, u3, u4, rfl, hua⟩ := id hu
      (with_reducible refine W_assignN ?_; intro _; with_reducible refine W_IfExp ?_; intro _; with_reducible refine W_isNoneR ?_; with_reducible refine w_condf ?_; with_reducible refine W_tupL ?_)
      exact ⟨⟨_, rfl⟩, .rfl⟩
  rintro m1 ⟨w2, rfl⟩
  obtain ⟨b1, b2, b3⟩ := hw.bd I.k
  (with_reducible refine W_consQ ?_; intro _ _ _; with_reducible refine W_AssignTuple ?_; intro _; with_reducible refine W_Tuple ?_; intro _; with_reducible refine W_items_cons ?_; intro _; with_reducible refine W_BinOp ?_; intro _; with_reducible refine W_BinOp ?_; intro _; with_reducible refine W_callG ?_; intro _; with_reducible refine W_itemsL ?_; intro _; with_reducible refine W_items_cons ?_; intro _; with_reducible refine W_BinOp ?_; intro _; with_reducible refine W_local ?_; with_reducible refine W_int ?_; intro _; with_reducible refine W_add ?_; intro _; with_reducible refine W_items_nil ?_)
  refine sp_takeP (n := n + 14) (by assumption) (by k_extra "pk") ho' ?_ ?_ fun k tk o2s ho2 hk0 hk4 => ?_
  · omega
  · omega
  (with_reducible refine W_int ?_; intro _; with_reducible refine W_sub ?_; intro _; with_reducible refine W_CallName ?_; intro _; with_reducible refine W_bltn ?_; with_reducible refine W_callT ?_; intro _; with_reducible refine W_items_cons ?_; intro _; with_reducible refine W_Compare ?_; intro _; with_reducible refine W_local ?_; with_reducible refine W_int ?_; intro _; with_reducible refine W_gt ?_; with_reducible refine W_items_nil ?_; with_reducible refine W_int_bool ?_; intro _; with_reducible refine W_add ?_; intro _; with_reducible refine W_items_cons ?_; intro _; with_reducible refine W_callG ?_; intro _; with_reducible refine W_itemsL ?_; intro _; with_reducible refine W_itemsI ?_; intro _ _; with_reducible refine W_items_nil ?_)
  refine sp_takeP (n := n + 14) (by assumption) (by k_extra "pk") ho2 (by decide) (by decide) fun k2 tk2 o3s ho3 hk20 hk24 => ?_
  (with_reducible refine W_items_nil ?_; with_reducible refine W_newTuple ?_; intro _; with_reducible refine W_unpack ?_; with_reducible refine W_eachName ?_)
  refine W_storeCP (o := o2) rfl (by k_extra "p1") d2 (fun o2' d2' => ?_)
  generalize hat : k - 1 + (if decide (2 < ((wLen w : Nat) : Int)) = true then 1 else 0) = at_ at *
  (with_reducible refine W_eachName ?_; with_reducible refine W_store ?_; with_reducible refine W_eachNil ?_; with_reducible refine W_consQ ?_; intro _ _ _; with_reducible refine W_assignN ?_; intro _; with_reducible refine W_callG ?_; intro _; with_reducible refine W_items_cons ?_; intro _)
  refine W_lamTab (PT := 394) (o := te) (qual := qElem) (line := 259) (col := 22) (by assumption) rfl (by kernel_rfl) (by k_extra "p1") I.te (fun p hp => by k_extra "mm") rfl rfl rfl rfl rfl fun f c' oc ctv pm X hoc hnt hX hco => ?_
  (with_reducible refine W_items_nil ?_)
  refine W.nd fun nd => ?_
  refine sp_heard (n := n + 14) (by assumption) (.head _) rfl fun cF m' hdp' hun' O' => ?_
  refine' WZ_callLam (n := n + 13) (binds := []) O' (.head _) (.tail _ ?hoc) hco rfl rfl ?_ rfl rfl rfl (by decide)
  case hoc => rcases List.mem_append.mp hoc with q | q <;> k_extra "mm"
  intro outer A₀ base h₀ L2 O2
  simp only [mOf, List.foldl]
  refine WX_Method ?_
  (with_reducible refine W_free ?_; with_reducible refine W_method ?_)
  refine WX_callK (by assumption) (by k_is) ?_
  (with_reducible refine W_items_cons ?_; intro _; with_reducible refine W_free ?_; with_reducible refine W_items_cons ?_; intro _; with_reducible refine W_free ?_; with_reducible refine W_items_nil ?_)
  refine WZ.toX (sp_elemX (n := n + 11) (w := w) (by assumption) ?_ ?_ (hv.sub fun p hp => by k_extra "mm") (fun ek eb el er hew h0 hl v' X' hv' => ?_) fun hout dx H' hT hsub => ?_)
  · rw [hdp']
    show c.dp + 1 + 1 + 1 = 305
    rw [hdp]
  · rw [hun']
    show c.un + 3 + 3 + 3 = 16
    rw [hun]
  · refine Dr.id ?_
    refine W_cons (W_IfC (¬ (0 ≤ at_ ∧ at_ < wLen w)) ?_ (fun hc => ?_) fun hc => ?_)
    · (with_reducible refine W_isTrue_not ?_; intro _; with_reducible refine W_chain ?_; intro _; with_reducible refine W_int ?_; intro _; with_reducible refine W_link ?_; intro _; with_reducible refine W_cell ?_; with_reducible refine W_le ?_; with_reducible refine W_truthy_bool ?_)
      refine ⟨fun q1 => ?_, fun q1 => ?_⟩
      · have q1 := of_decide_eq_true q1
        (refine W_last' ?_; intro _; with_reducible refine W_local ?_; with_reducible refine W_lt ?_; with_reducible refine W_truthy_bool ?_)
        refine ⟨?_, rfl, rfl⟩
        simp only [Bool.not_eq_true', decide_eq_false_iff_not]
        omega
      · have q1 := of_decide_eq_false q1
        refine ⟨?_, rfl, rfl⟩
        simp only [Bool.not_false, true_iff]
        omega
    · exact absurd ⟨h0, by rw [hew]; exact hl⟩ hc
    with_reducible refine W_nil ?_
    subst hew
    obtain ⟨ua, u1, u2, u3, u4, rfl, hua⟩ := id hu
    obtain ⟨zs, hz1, hz2, hz3⟩ := id hw
    have hkR : ek < R.length := (List.getElem?_eq_some_iff.mp hz1).1
    have hzl := I.k.xl zs (List.mem_of_getElem? hz1)
    have hl : at_ < (el : Int) := hl
    obtain ⟨x, hx⟩ : ∃ x, zs[eb + at_.toNat]? = some x := ⟨zs[eb + at_.toNat]'(by omega), by simp⟩
    (with_reducible refine W_consQ ?_; intro _ _ _; with_reducible refine W_Expr ?_; intro _; with_reducible refine W_Method ?_; intro _; with_reducible refine W_cell ?_; with_reducible refine W_method ?_; with_reducible refine W_callK ?_; intro _; with_reducible refine W_itemsL ?_; intro _; with_reducible refine W_itemsL ?_; intro _; with_reducible refine W_items_nil ?_)
    refine sp_store (n := n + 12) (by assumption) (by k_extra "pk") hS (hv'.sub fun p hp => by k_extra "mm") hz1 hx (by omega) (by omega) fun A2 hS2 => ?_
    obtain ⟨ds2, oS2, mc2, ca2, sl2, ma2, kk2, X2, hA2, hf2, hrS2⟩ := id hS2
    subst hA2
    (with_reducible refine W_consQ ?_; intro _ _ _; with_reducible refine W_AssignItem ?_; intro _; with_reducible refine W_local ?_; with_reducible refine W_Subscript ?_; intro _; with_reducible refine W_local ?_; with_reducible refine W_tupL ?_)
    obtain ⟨ra, rvs, re, g1, g2, g3, g4⟩ := hrB.at hz1
    have hrl2 := g2.length
    refine W_lstItem (by k_extra "mm") (by omega) (get_map_ref' g1) ?_ (by omega)
    (with_reducible refine W_BinOp ?_; intro _; with_reducible refine W_tupL ?_; with_reducible refine W_cell ?_; with_reducible refine W_add ?_; intro _)
    obtain ⟨XB2, g5, g6⟩ := g4 (rvs.set (eb + at_.toNat) (.int k2 tk2)) re (zs.set (eb + at_.toNat) k2) (ints_set g2)
    rw [show (eb : Int) + at_ = ((eb + at_.toNat : Nat) : Int) by omega]
    refine W_setItemB (A := (rl, lstOf (asB.map Value.ref) eB) :: XB) (A' := (rl, lstOf (asB.map Value.ref) eB) :: XB2) (vs := rvs) (by k_extra "pk") (by omega) (.tail g5) (by omega) ?_
    (with_reducible refine W_consQ ?_; intro _ _ _; with_reducible refine W_Return ?_; with_reducible refine W_Compare ?_; intro _; with_reducible refine W_Method ?_; intro _; with_reducible refine W_cell ?_; with_reducible refine W_method ?_; with_reducible refine W_callK ?_; intro _; with_reducible refine W_itemsL ?_; intro _; with_reducible refine W_items_nil ?_)
    have hxs : (zs.set (eb + at_.toNat) k2)[eb + at_.toNat]? = some k2 := List.getElem?_set_self (by omega)
    refine sp_load (n := n + 13) (by assumption) (by k_extra "pk") hS2 (hv'.sub fun p hp => by k_extra "mm") (List.getElem?_set_self (by omega)) hxs (by omega) (by omega) fun t7 => ?_
    (with_reducible refine W_local ?_; with_reducible refine W_eq ?_)
    rw [show (k2 == k2) = true by simp]
    refine' Inv.fin (X := X) (FX := X ++ F) (A := (st, instObj 275 ds2) :: (ds2, oS2) :: X2) (B := ((rl, lstOf (asB.map Value.ref) eB) :: XB2)) (ps := ps) (st := st) (rl := rl) (te := tabObj #[rawInt 259, rawInt 22, .ref c']) hF0 h rfl ?II1 ?ll1
    case ll1 => k_extra "le"
    case II1 => exact ⟨ho3, hS2, ⟨_, _, _, rfl, g6⟩, I.p.sub fun p hp => List.mem_append_right _ hp, I.tp.sub fun p hp => List.mem_append_right _ hp, .inr ⟨c', oc, rfl, hoc, hco⟩, I.k.put hz1 (by simp)⟩
  · refine hT _ fun a t1 t2 H2 hs2 => ?_
    refine W.le (Le.ofSub hs2 nd) ?_
    refine W_cons (W_IfC (¬ (0 ≤ at_ ∧ at_ < wLen w)) ?_ (fun hc => ?_) fun hc => ?_)
    · (with_reducible refine W_isTrue_not ?_; intro _; with_reducible refine W_chain ?_; intro _; with_reducible refine W_int ?_; intro _; with_reducible refine W_link ?_; intro _; with_reducible refine W_cell ?_; with_reducible refine W_le ?_; with_reducible refine W_truthy_bool ?_)
      refine ⟨fun q1 => ?_, fun q1 => ?_⟩
      · have q1 := of_decide_eq_true q1
        (refine W_last' ?_; intro _; with_reducible refine W_local ?_; with_reducible refine W_lt ?_; with_reducible refine W_truthy_bool ?_)
        refine ⟨?_, rfl, rfl⟩
        simp only [Bool.not_eq_true', decide_eq_false_iff_not]
        omega
      · have q1 := of_decide_eq_false q1
        refine ⟨?_, rfl, rfl⟩
        simp only [Bool.not_false, true_iff]
        omega
    · (with_reducible refine W_consQ ?_; intro _ _ _; with_reducible refine W_Return ?_; with_reducible refine W_Compare ?_; intro _; with_reducible refine W_local ?_; with_reducible refine W_Tuple ?_; intro _; with_reducible refine W_items_cons ?_; intro _; with_reducible refine W_str ?_; intro _; with_reducible refine W_items_cons ?_; intro _; with_reducible refine W_bytes ?_; intro _; with_reducible refine W_items_nil ?_; with_reducible refine W_newTuple ?_; intro _)
      refine W_eqPair (n := n + 14) (by assumption) (.tail _ (.head _)) (.head _) (EqL.str) (EqL.bytes) ?_
      show Dr (Q (.bool true) m) _
      refine' Inv.fin (X := X) (FX := X ++ F) (A := (st, instObj 275 ds) :: (ds, oS) :: X0) (B := ((rl, lstOf (asB.map Value.ref) eB) :: XB)) (ps := ps) (st := st) (rl := rl) (te := tabObj #[rawInt 259, rawInt 22, .ref c']) hF0 h rfl ?II2 ?ll2
      case ll2 => k_extra "le"
      case II2 => exact ⟨ho3, hS, hB0, I.p.sub fun p hp => List.mem_append_right _ hp, I.tp.sub fun p hp => List.mem_append_right _ hp, .inr ⟨c', oc, rfl, hoc, hco⟩, I.k.mono⟩
    · exact absurd hout hc
theorem WinOk.cut {R : List (List Int)} {w : Win} {b e l : Nat} (h : WinOk R w) (h1 : b ≤ e) (h2 : e ≤ l) (h3 : l ≤ wRoom w) : WinOk R (cutW w b e l) := by
  cases w with
  | none => trivial
  | some w =>
    obtain ⟨k, bg, len, r⟩ := w
    obtain ⟨xs, e1, e2, e3⟩ := h
    have h3 : l ≤ r := h3
    exact ⟨xs, e1, show bg + b + (l - b) ≤ xs.length by omega, show e - b ≤ l - b by omega⟩
theorem fx1 {p : Addr × Obj} {A B C : HL} : p :: (A ++ (B ++ C)) = (p :: (A ++ B)) ++ C := by simp
theorem fx2 {p q : Addr × Obj} {A B C : HL} : p :: q :: (A ++ (B ++ C)) = (p :: q :: (A ++ B)) ++ C := by simp
theorem CellsAre.seven {cm : Str → Option Value} {n₁ n₂ n₃ n₄ n₅ n₆ n₇ : Str} {c₁ c₂ c₃ c₄ c₅ c₆ c₇ : Addr} {cells : List (Addr × Obj)} (x : CellsAre cm [(n₁, c₁), (n₂, c₂), (n₃, c₃), (n₄, c₄), (n₅, c₅), (n₆, c₆), (n₇, c₇)] cells) :
    ∃ o₁ o₂ o₃ o₄ o₅ o₆ o₇, cells = [(c₁, o₁), (c₂, o₂), (c₃, o₃), (c₄, o₄), (c₅, o₅), (c₆, o₆), (c₇, o₇)] ∧ o₁.data = .cell (cm n₁) ∧ o₂.data = .cell (cm n₂) ∧ o₃.data = .cell (cm n₃) ∧ o₄.data = .cell (cm n₄) ∧ o₅.data = .cell (cm n₅) ∧ o₆.data = .cell (cm n₆) ∧ o₇.data = .cell (cm n₇) := by
  cases x with | cons h1 r => cases r with | cons h2 r => cases r with | cons h3 r =>
    obtain ⟨o₄, o₅, o₆, o₇, rfl, h4, h5, h6, h7⟩ := r.four
    exact ⟨_, _, _, o₄, o₅, o₆, o₇, rfl, h1, h2, h3, h4, h5, h6, h7⟩
theorem optv3 {q : Int} {tq : Tok} (hq0 : 0 ≤ q) {i2 : Nat} {v2 : Value} (h : [Value.none, Value.none, Value.int q tq][i2]? = some v2) : ∃ o, OptV o v2 := by
  rcases i2 with _ | _ | _ | k
  · exact ⟨none, (Option.some.inj h).symm⟩
  · exact ⟨none, (Option.some.inj h).symm⟩
  · exact ⟨some q.toNat, tq, by rw [← Option.some.inj h, Int.toNat_of_nonneg hq0]⟩
  · simp at h
theorem len3 {ys : List Value} (h : ys.length = 3) : ∃ a b c, ys = [a, b, c] := by
  rcases ys with _ | ⟨a, _ | ⟨b, _ | ⟨c, _ | ⟨d, r⟩⟩⟩⟩
  · cases h
  · cases h
  · cases h
  · exact ⟨a, b, c, rfl⟩
  · cases h
theorem sp_lawPart {C : Cst} {c : Fc} {n : Nat} {m : Mp} {H0 G : HL} (O : Ok C c (n + 16)) (hdp : c.dp = 302) (hun : c.un = 7) {src pl st rl : Addr} {R : List (List Int)} {ws : List Win} {t : Nat} {Q : Value → Mp → HL → Prop} (ht : t < 12)
    (hI : Inv G src pl st rl R ws t H0) (h : ∀ R' ws' H', Inv G src pl st rl R' ws' (t + 1) H' → Q (.bool true) m (H' ++ G)) : W C c m (H0 ++ G) (call (.ref 380) [.ref src, .ref st, .ref pl, .ref rl]) Q := by
  refine Inv.in hI fun o ps ep tp te A B F0 F I hF0 => ?_
  have hpl := I.p.len
  have hkl := I.k.pl
  have hne : ps ≠ [] := fun z => I.k.ne (List.length_eq_zero_iff.mp (by rw [← hpl, z]; rfl))
  have hb12 := bnd_12 (Nat.le_of_lt ht)
  have hrl := I.k.rl
  have hS := I.a
  obtain ⟨ds, oS, mc₀, ca, sl, ma, kk, X0, hA, hf, hrS⟩ := id hS
  subst hA
  have hB0 := I.b
  obtain ⟨asB, eB, XB, hB, hrB⟩ := id hB0
  subst hB
  refine' W_defCz (n := n + 15) (binds := [("source", .ref src), ("store", .ref st), ("pairs", .ref pl), ("rows", .ref rl)]) (upd (upd emp "pairs" (.ref pl)) "rows" (.ref rl)) (upd (upd emp "source" (.ref src)) "store" (.ref st)) O ?ho ?hcd ?hb ?hkd ?hnd ?eL ?eC ?_ ?c1 ?c2 ?c3
  case ho => k_is
  case hcd => k_is
  case hb => rfl
  case hkd => rfl
  case hnd => decide
  case eL => rfl
  case eC => rfl
  case c1 => rfl
  case c2 => rfl
  case c3 => rfl
  intros
  rename_i L cells O1 Y
  generalize hcl : cellsFrom (L + 1) _ [] = cl at O1 Y ⊢
  obtain ⟨ad7, ad6, ad5, ad4, ad3, ad2, ad1, rfl⟩ : ∃ ad7 ad6 ad5 ad4 ad3 ad2 ad1 : Addr, cl = [(Str.ofString "value", ad7), (Str.ofString "most", ad6), (Str.ofString "low", ad5), (Str.ofString "high", ad4), (Str.ofString "room", ad3), (Str.ofString "store", ad2), (Str.ofString "source", ad1)] := ⟨_, _, _, _, _, _, _, hcl.symm.trans rfl⟩
  clear hcl
  refine W.letE ?_
  intro cF QnF QrF
  obtain ⟨o1, o2, o3, o4, o5, o6, o7, rfl, d1, d2, d3, d4, d5, d6, d7⟩ := CellsAre.seven Y
  have d1 : o1.data = .cell none := d1
  have d2 : o2.data = .cell none := d2
  have d3 : o3.data = .cell none := d3
  have d4 : o4.data = .cell none := d4
  have d5 : o5.data = .cell none := d5
  have d6 : o6.data = .cell (some (.ref st)) := d6
  have d7 : o7.data = .cell (some (.ref src)) := d7
  (with_reducible refine W_consQ ?_; intro _ _ _; with_reducible refine W_AssignTuple ?_; intro _; with_reducible refine W_callG ?_; intro _; with_reducible refine W_items_cons ?_; intro _; with_reducible refine W_cell ?_; with_reducible refine W_itemsL ?_; intro _; with_reducible refine W_items_nil ?_)
  refine sp_one (n := n + 13) (by assumption) (by k_extra "pk") I.s (by k_extra "mm") hne (by omega) fun i v o' hi ho' => ?_
  obtain ⟨w, p, v1, u, hwi, rfl, hp, hv, hu⟩ := I.p.get hi
  have hw := I.k.win w (List.mem_of_getElem? hwi)
  (with_reducible refine W_unpack ?_; with_reducible refine W_eachName ?_)
  refine W_storeCP (o := o1) rfl (by k_extra "p1") d1 (fun o1' d1' => ?_)
  (with_reducible refine W_eachName ?_)
  (with_reducible refine W_store ?_)
  (with_reducible refine W_eachNil ?_)
  refine W_cutC (a := ad3) (o := o5) (by k_extra "p1") (fun o5' => ∃ t, o5'.data = .cell (some (.int (wRoom w) t))) (fun m m1 => ∃ t2, m1 = upd m "length" (.int (wLen w) t2)) ?_ ?_
  · cases w with
    | none =>
      obtain rfl : u = .none := hu
      (with_reducible refine W_AssignTuple ?_; intro _; with_reducible refine W_IfExp ?_; intro _; with_reducible refine W_isNoneN ?_; with_reducible refine w_condt ?_; with_reducible refine W_Tuple ?_; intro _; with_reducible refine W_itemsI ?_; intro _ _; with_reducible refine W_itemsI ?_; intro _ _; with_reducible refine W_items_nil ?_; with_reducible refine W_newTuple ?_; intro _; with_reducible refine W_unpack ?_; with_reducible refine W_eachName ?_; with_reducible refine W_store ?_; with_reducible refine W_eachName ?_)
      refine W_storeCP (o := o5) rfl (by k_extra "p1") d5 (fun o5' d5' => ?_)
      (with_reducible refine W_eachNil ?_)
      exact ⟨o5', ⟨_, d5'⟩, ⟨_, rfl⟩, by k_extra "le"⟩
    | some w =>
      obtain ⟨wk, wb, wl, wr⟩ := w
      obtain ⟨ua, u1, u2, u3, u4, rfl, hua⟩ := id hu
      (with_reducible refine W_AssignTuple ?_; intro _; with_reducible refine W_IfExp ?_; intro _; with_reducible refine W_isNoneR ?_; with_reducible refine w_condf ?_; with_reducible refine W_slice ?_; intro _; with_reducible refine W_local ?_; with_reducible refine W_part1 ?_; with_reducible refine W_int ?_; intro _; with_reducible refine W_part0 ?_)
      refine SliceX.tup (ws := [.int wl u3, .int wr u4]) 2 (by k_extra "mm") (by decide) (by exact Nat.le_of_ble_eq_true rfl) (by exact Nat.le_of_ble_eq_true rfl) rfl fun D3 => ?_
      (with_reducible refine W_unpack ?_; with_reducible refine W_eachName ?_; with_reducible refine W_store ?_; with_reducible refine W_eachName ?_)
      refine W_storeCP (o := o5) rfl (by k_extra "p1") d5 (fun o5' d5' => ?_)
      (with_reducible refine W_eachNil ?_)
      exact ⟨o5', ⟨_, d5'⟩, ⟨_, rfl⟩, by k_extra "le"⟩
  rintro m1 o5' ⟨tr, d5'⟩ ⟨t2, rfl⟩
  obtain ⟨b1, b2, b3⟩ := hw.bd I.k
  (with_reducible refine W_consQ ?_; intro _ _ _; with_reducible refine W_AssignTuple ?_; intro _)
  refine' W_ListComp ?h1 ?h2 ?h3 ?h4 ?h5 ?_
  case h1 => rfl
  case h2 => decide
  case h3 => rfl
  case h4 => decide
  case h5 => rfl
  (with_reducible refine W_CallName ?_; intro _; with_reducible refine W_bltn ?_; with_reducible refine W_callT ?_; intro _; with_reducible refine W_itemsI ?_; intro _ _; with_reducible refine W_items_nil ?_)
  refine W_range (by omega) (by omega) fun it X hX => ?_
  have hel : wRoom w + 2 < 1000000 := by omega
  refine ⟨3, _, _, _, it, X, _, fun i ys m' H' => m' = (upd (upd (upd (upd emp "pairs" (.ref pl)) "rows" (.ref rl)) "window" u) "length" (.int (wLen w) t2)) ∧ ys.length = i ∧ (∀ y ∈ ys, ∃ o, OptV o y) ∧ ∃ o3s, IsSrc o3s ∧ H' = (src, o3s) :: (ad3, o5') :: (ad7, o1') :: (ad6, o2) :: (ad5, o3) :: (ad4, o4) :: (ad2, o6) :: (ad1, o7) :: (pl, lstOf ps ep) :: (377, tp) :: (394, te) :: (((st, instObj 275 ds) :: (ds, oS) :: X0) ++ (((rl, lstOf (asB.map Value.ref) eB) :: XB) ++ F)), ⟨rfl, It_range, ?le, hX, trivial, rfl, rfl, nofun, _, ho', rfl⟩, Self_range, by exact Nat.le_of_ble_eq_true rfl, fun _ => trivial, ?_, ?_⟩
  case le => k_extra "le"
  · rintro i v ys m' H' X' D oC mc A' e hi hyl ⟨⟨t, rfl⟩, hX'⟩ _ ⟨rfl, hyi, hys, o3s, ho3, rfl⟩ hC hm
    refine W_tests_nil ⟨fun _ => ?_, fun q => nomatch q⟩
    (with_reducible refine W_CallName ?_; intro _; with_reducible refine W_cGlob ?_; with_reducible refine W_callK ?_; intro _; with_reducible refine W_items_cons ?_; intro _; with_reducible refine W_cCell ?_; with_reducible refine W_items_cons ?_; intro _; with_reducible refine W_List ?_; intro _; with_reducible refine W_items_cons ?_; intro _; with_reducible refine W_none ?_; with_reducible refine W_items_cons ?_; intro _; with_reducible refine W_none ?_; with_reducible refine W_items_cons ?_; intro _; with_reducible refine W_CallName ?_; intro _; with_reducible refine W_cGlob ?_; with_reducible refine W_callK ?_; intro _; with_reducible refine W_items_cons ?_; intro _; with_reducible refine W_cCell ?_; with_reducible refine W_items_cons ?_; intro _; with_reducible refine W_BinOp ?_; intro _; with_reducible refine W_cCell ?_; with_reducible refine W_int ?_; intro _; with_reducible refine W_add ?_; intro _; with_reducible refine W_items_nil ?_)
    refine sp_takeP (n := n + 14) (by assumption) (by k_extra "pk") ho3 (by omega) (by omega) fun q tq o4s ho4 hq0 hq9 => ?_
    (with_reducible refine W_items_nil ?_; with_reducible refine W_newList ?_; intro _; with_reducible refine W_items_nil ?_)
    refine sp_one (n := n + 13) (vs := [.none, .none, .int q tq]) (by assumption) (by k_extra "pk") ho4 (by k_extra "mm") nofun (by exact Nat.le_of_ble_eq_true rfl) fun i2 v2 o5s hi2 ho5 => ?_
    skip
    have hv2 : ∃ o, OptV o v2 := by
      exact optv3 hq0 hi2
    refine ⟨X', oC, mc, _, ?_, hX', hC, trivial, rfl, by simp [hyi], ?_, o5s, ho5, rfl⟩
    · k_extra "le"
    · intro y hy
      rcases List.mem_append.mp hy with z | z
      · exact hys y z
      · rw [List.mem_singleton.mp z]; exact hv2
  · rintro ys m' H' A' e hyl _ ⟨rfl, hyi, hys, o3s, ho3, rfl⟩
    obtain ⟨vlo, vhi, vmo, rfl⟩ := len3 hyi
    obtain ⟨lo, hlo⟩ := hys vlo (.head _)
    obtain ⟨hi, hhi⟩ := hys vhi (.tail _ (.head _))
    obtain ⟨mo, hmo⟩ := hys vmo (.tail _ (.tail _ (.head _)))
    skip
    refine W_unpackL (.head _) ?_ rfl rfl
    (with_reducible refine W_eachName ?_)
    refine W_storeCP (o := o3) rfl (by k_extra "p1") d3 (fun o3' d3' => ?_)
    (with_reducible refine W_eachName ?_)
    refine W_storeCP (o := o4) rfl (by k_extra "p1") d4 (fun o4' d4' => ?_)
    (with_reducible refine W_eachName ?_)
    refine W_storeCP (o := o2) rfl (by k_extra "p1") d2 (fun o2' d2' => ?_)
    (with_reducible refine W_eachNil ?_)
    (with_reducible refine W_consQ ?_; intro _ _ _)
    refine' W_AssignSwap ?_ ?hs1 ?hw1
    case hs1 => rfl
    case hw1 => rfl
    with_reducible refine W_Tuple ?_
    refine W_items_cons ?_ rfl
    refine W_ifNoneC (d := 0) hlo rfl (by k_extra "mm") d3' ?_ (fun t3 => ?_) rfl rfl (by decide)
    · (with_reducible refine W_int ?_; intro _)
      exact ⟨⟨_, rfl⟩, rfl, rfl⟩
    refine W_items_cons ?_ rfl
    refine W_ifNoneC (d := wLen w) hhi rfl (by k_extra "mm") d4' ?_ (fun t4 => ?_) rfl rfl (by decide)
    · (with_reducible refine W_local ?_)
      exact ⟨⟨_, rfl⟩, rfl, rfl⟩
    refine W_items_cons ?_ rfl
    refine W_ifNoneC (d := wRoom w) hmo rfl (by k_extra "mm") d2' ?_ (fun t5 => ?_) rfl rfl (by decide)
    · (with_reducible refine W_cell ?_)
      exact ⟨⟨_, rfl⟩, rfl, rfl⟩
    (with_reducible refine W_items_nil ?_; with_reducible refine W_newTuple ?_; intro _)
    refine ⟨_, _, rfl, .head _, rfl, ?_⟩
    refine W_swapCons ?_
    (with_reducible refine W_store ?_)
    refine W_swapCons ?_
    (with_reducible refine W_store ?_)
    refine W_swapCons ?_
    (with_reducible refine W_store ?_)
    refine W_swapNil ?_
    refine W.le (Le.rfl.drop) ?_
    (with_reducible refine W_consQ ?_; intro _ _ _; with_reducible refine W_assignN ?_; intro _; with_reducible refine W_callG ?_; intro _; with_reducible refine W_items_cons ?_; intro _)
    refine W_lamTab (PT := 377) (o := tp) (qual := qPart) (line := 230) (col := 22) (by assumption) rfl (by kernel_rfl) (by k_extra "p1") I.tp (fun p hp => by k_extra "mm") rfl rfl rfl rfl rfl fun f c' oc ctv pm X hoc hnt hX hco => ?_
    (with_reducible refine W_items_nil ?_)
    refine W.nd fun nd => ?_
    refine sp_heard (n := n + 14) (by assumption) (.head _) rfl fun cF m' hdp' hun' O' => ?_
    refine' WZ_callLam (n := n + 13) (binds := []) O' (.head _) (.tail _ ?hoc) hco rfl rfl ?_ rfl rfl rfl (by decide)
    case hoc => rcases List.mem_append.mp hoc with q | q <;> k_extra "mm"
    intro outer A₀ base h₀ L2 O2
    simp only [mOf, List.foldl]
    refine WX_Method ?_
    (with_reducible refine W_free ?_; with_reducible refine W_method ?_)
    refine WX_callK (by assumption) (by k_is) ?_
    (with_reducible refine W_items_cons ?_; intro _; with_reducible refine W_free ?_; with_reducible refine W_items_cons ?_; intro _; with_reducible refine W_free ?_; with_reducible refine W_items_cons ?_; intro _; with_reducible refine W_free ?_; with_reducible refine W_items_cons ?_; intro _; with_reducible refine W_free ?_; with_reducible refine W_items_nil ?_)
    refine WZ.toX (sp_partOf (n := n + 11) (w := w) (lo := lo) (hi := hi) (mo := mo) (by assumption) ?_ ?_ (hv.sub fun p hp => by k_extra "mm") hlo hhi hmo (fun h1 h2 h3 v' X' hv' => ?_) fun hout dx H' hT hsub => ?_)
    · rw [hdp']
      show c.dp + 1 + 1 + 1 = 305
      rw [hdp]
    · rw [hun']
      show c.un + 3 + 3 + 3 = 16
      rw [hun]
    · refine Dr.id ?_
      refine W_cons (W_IfC (¬ (lo.getD 0 ≤ hi.getD (wLen w) ∧ hi.getD (wLen w) ≤ mo.getD (wRoom w) ∧ mo.getD (wRoom w) ≤ wRoom w)) ?_ (fun hc => ?_) fun hc => ?_)
      · (with_reducible refine W_isTrue_not ?_; intro _; with_reducible refine W_chain ?_; intro _; with_reducible refine W_local ?_; with_reducible refine W_link ?_; intro _; with_reducible refine W_local ?_; with_reducible refine W_le ?_; with_reducible refine W_truthy_bool ?_)
        refine ⟨fun q1 => ?_, fun q1 => ?_⟩
        · have q1 := of_decide_eq_true q1
          (refine W_link' ?_; intro _; with_reducible refine W_local ?_; with_reducible refine W_le ?_; with_reducible refine W_truthy_bool ?_)
          refine ⟨fun q2 => ?_, fun q2 => ?_⟩
          · have q2 := of_decide_eq_true q2
            (refine W_last' ?_; intro _; with_reducible refine W_cell ?_; with_reducible refine W_le ?_; with_reducible refine W_truthy_bool ?_)
            refine ⟨?_, rfl, rfl⟩
            simp only [Bool.not_eq_true', decide_eq_false_iff_not]
            omega
          · have q2 := of_decide_eq_false q2
            refine ⟨?_, rfl, rfl⟩
            simp only [Bool.not_false, true_iff]
            omega
        · have q1 := of_decide_eq_false q1
          refine ⟨?_, rfl, rfl⟩
          simp only [Bool.not_false, true_iff]
          omega
      · exact absurd ⟨h1, h2, h3⟩ hc
      with_reducible refine W_nil ?_
      have hv3 : SlV (cutW w (lo.getD 0) (hi.getD (wLen w)) (mo.getD (wRoom w))) v' (X' ++ (X ++ F)) := by
        refine hv'.ts (.app (.of fun p hp => List.mem_append_left _ hp) (.drop (nt_dat rfl nofun) (.app (hX _) (.drop (nt_dat rfl nofun) ?_))))
        refine .drop (nt_dat d2' nofun) (.drop (nt_dat d4' nofun) (.drop (nt_dat d3' nofun) (.drop nt_lst (.drop ho3.nt (.drop (nt_dat d5' nofun) (.drop (nt_dat d1' nofun) (.drop (nt_dat d6 nofun) (.drop (nt_dat d7 nofun) (.drop nt_lst (.drop I.te.nt (.app I.a.nt (.app I.b.nt (.of fun p hp => List.mem_append_right _ (List.mem_append_right _ hp))))))))))))))
      have I' : Inv0 st rl R ws t o ps (tabObj #[rawInt 230, rawInt 22, .ref c']) te ((st, instObj 275 ds) :: (ds, oS) :: X0) ((rl, lstOf (asB.map Value.ref) eB) :: XB) (X ++ F) := ⟨I.s, I.a, I.b, I.p.sub fun p hp => List.mem_append_right _ hp, .inr ⟨c', oc, rfl, hoc, hco⟩, I.te.sub fun p hp => List.mem_append_right _ hp, I.k⟩
      have hK := I.k.snoc (hw.cut h1 h2 h3)
      cases w with
      | none =>
        obtain rfl : u = .none := hu
        (with_reducible refine W_consQ ?_; intro _ _ _; with_reducible refine W_Expr ?_; intro _; with_reducible refine W_Method ?_; intro _; with_reducible refine W_local ?_; with_reducible refine W_getAppend ?_; with_reducible refine W_callB ?_; intro _; with_reducible refine W_items_cons ?_; intro _; with_reducible refine W_Tuple ?_; intro _; with_reducible refine W_itemsL ?_; intro _; with_reducible refine W_items_cons ?_; intro _; with_reducible refine W_IfExp ?_; intro _; with_reducible refine W_isNoneN ?_; with_reducible refine w_condt ?_; with_reducible refine W_none ?_; with_reducible refine W_items_nil ?_; with_reducible refine W_newTuple ?_; intro _; with_reducible refine W_items_nil ?_)
        refine W_append (vs := ps) (by repeat (first | exact At.head | apply At.tail | (apply At.app))) ?_ (by simp only [sizeLine_eq]; omega)
        (with_reducible refine W_consQ ?_; intro _ _ _; with_reducible refine W_Return ?_; with_reducible refine W_true ?_)
        refine' Inv.fin (X := (?pa1, tupOf [v', .none]) :: (X' ++ X)) (FX := (?pa1, tupOf [v', .none]) :: (X' ++ (X ++ F))) (A := (st, instObj 275 ds) :: (ds, oS) :: X0) (B := ((rl, lstOf (asB.map Value.ref) eB) :: XB)) (ps := ps ++ [.ref _]) (st := st) (rl := rl) hF0 h fx1 ?II1 ?ll1
        case ll1 => k_extra "le"
        case II1 => exact I'.push ho3 hS I.b hK (fun p hp => .tail _ (List.mem_append_right _ hp)) (.head _) (hv3.sub fun p hp => .tail _ hp) rfl
      | some w =>
        obtain ⟨wk, wb, wl, wr⟩ := w
        obtain ⟨ua, u1, u2, u3, u4, rfl, hua⟩ := id hu
        have h1 : lo.getD 0 ≤ hi.getD wl := h1
        have h2 : hi.getD wl ≤ mo.getD wr := h2
        (with_reducible refine W_consQ ?_; intro _ _ _; with_reducible refine W_Expr ?_; intro _; with_reducible refine W_Method ?_; intro _; with_reducible refine W_local ?_; with_reducible refine W_getAppend ?_; with_reducible refine W_callB ?_; intro _; with_reducible refine W_items_cons ?_; intro _; with_reducible refine W_Tuple ?_; intro _; with_reducible refine W_itemsL ?_; intro _; with_reducible refine W_items_cons ?_; intro _; with_reducible refine W_IfExp ?_; intro _; with_reducible refine W_isNoneR ?_; with_reducible refine w_condf ?_; with_reducible refine W_Tuple ?_; intro _; with_reducible refine W_items_cons ?_; intro _; with_reducible refine W_tupL ?_; with_reducible refine W_items_cons ?_; intro _; with_reducible refine W_BinOp ?_; intro _; with_reducible refine W_tupL ?_; with_reducible refine W_local ?_; with_reducible refine W_add ?_; intro _; with_reducible refine W_items_cons ?_; intro _; with_reducible refine W_BinOp ?_; intro _; with_reducible refine W_local ?_; with_reducible refine W_local ?_; with_reducible refine W_sub ?_; intro _; with_reducible refine W_items_cons ?_; intro _; with_reducible refine W_BinOp ?_; intro _; with_reducible refine W_local ?_; with_reducible refine W_local ?_; with_reducible refine W_sub ?_; intro _; with_reducible refine W_items_nil ?_; with_reducible refine W_newTuple ?_; intro _; with_reducible refine W_items_nil ?_; with_reducible refine W_newTuple ?_; intro _; with_reducible refine W_items_nil ?_)
        refine W_append (vs := ps) (by repeat (first | exact At.head | apply At.tail | (apply At.app))) ?_ (by simp only [sizeLine_eq]; omega)
        (with_reducible refine W_consQ ?_; intro _ _ _; with_reducible refine W_Return ?_; with_reducible refine W_true ?_)
        refine' Inv.fin (X := (?pa2, tupOf [v', .ref ?wa2]) :: (?wa2, tupOf [_, _, _, _]) :: (X' ++ X)) (FX := (?pa2, tupOf [v', .ref ?wa2]) :: (?wa2, tupOf [_, _, _, _]) :: (X' ++ (X ++ F))) (A := (st, instObj 275 ds) :: (ds, oS) :: X0) (B := ((rl, lstOf (asB.map Value.ref) eB) :: XB)) (ps := ps ++ [.ref _]) (st := st) (rl := rl) hF0 h fx2 ?II2 ?ll2
        case ll2 => k_extra "le"
        case II2 => exact I'.push ho3 hS I.b hK (fun p hp => .tail _ (.tail _ (List.mem_append_right _ hp))) (.head _) (hv3.sub fun p hp => .tail _ (.tail _ hp)) (WinV.of (.tail _ (.head _)) rfl (show ((wb : Nat) : Int) + ((lo.getD 0 : Nat) : Int) = ((wb + lo.getD 0 : Nat) : Int) by omega) (show ((hi.getD wl : Nat) : Int) - ((lo.getD 0 : Nat) : Int) = ((hi.getD wl - lo.getD 0 : Nat) : Int) by omega) (show ((mo.getD wr : Nat) : Int) - ((lo.getD 0 : Nat) : Int) = ((mo.getD wr - lo.getD 0 : Nat) : Int) by omega))
    · refine hT _ fun a t1 t2 H2 hs2 => ?_
      refine W.le (Le.ofSub hs2 nd) ?_
      refine W_cons (W_IfC (¬ (lo.getD 0 ≤ hi.getD (wLen w) ∧ hi.getD (wLen w) ≤ mo.getD (wRoom w) ∧ mo.getD (wRoom w) ≤ wRoom w)) ?_ (fun hc => ?_) fun hc => ?_)
      · (with_reducible refine W_isTrue_not ?_; intro _; with_reducible refine W_chain ?_; intro _; with_reducible refine W_local ?_; with_reducible refine W_link ?_; intro _; with_reducible refine W_local ?_; with_reducible refine W_le ?_; with_reducible refine W_truthy_bool ?_)
        refine ⟨fun q1 => ?_, fun q1 => ?_⟩
        · have q1 := of_decide_eq_true q1
          (refine W_link' ?_; intro _; with_reducible refine W_local ?_; with_reducible refine W_le ?_; with_reducible refine W_truthy_bool ?_)
          refine ⟨fun q2 => ?_, fun q2 => ?_⟩
          · have q2 := of_decide_eq_true q2
            (refine W_last' ?_; intro _; with_reducible refine W_cell ?_; with_reducible refine W_le ?_; with_reducible refine W_truthy_bool ?_)
            refine ⟨?_, rfl, rfl⟩
            simp only [Bool.not_eq_true', decide_eq_false_iff_not]
            omega
          · have q2 := of_decide_eq_false q2
            refine ⟨?_, rfl, rfl⟩
            simp only [Bool.not_false, true_iff]
            omega
        · have q1 := of_decide_eq_false q1
          refine ⟨?_, rfl, rfl⟩
          simp only [Bool.not_false, true_iff]
          omega
      · (with_reducible refine W_consQ ?_; intro _ _ _; with_reducible refine W_Return ?_; with_reducible refine W_Compare ?_; intro _; with_reducible refine W_local ?_; with_reducible refine W_Tuple ?_; intro _; with_reducible refine W_items_cons ?_; intro _; with_reducible refine W_str ?_; intro _; with_reducible refine W_items_cons ?_; intro _; with_reducible refine W_bytes ?_; intro _; with_reducible refine W_items_nil ?_; with_reducible refine W_newTuple ?_; intro _)
        refine W_eqPair (n := n + 14) (by assumption) (.tail _ (.head _)) (.head _) (EqL.str) (EqL.bytes) ?_
        show Dr (Q (.bool true) m) _
        refine' Inv.fin (X := X) (FX := X ++ F) (A := (st, instObj 275 ds) :: (ds, oS) :: X0) (B := ((rl, lstOf (asB.map Value.ref) eB) :: XB)) (ps := ps) (st := st) (rl := rl) (tp := tabObj #[rawInt 230, rawInt 22, .ref c']) hF0 h rfl ?II3 ?ll3
        case ll3 => k_extra "le"
        case II3 => exact ⟨ho3, hS, hB0, I.p.sub fun p hp => List.mem_append_right _ hp, .inr ⟨c', oc, rfl, hoc, hco⟩, I.te.sub fun p hp => List.mem_append_right _ hp, I.k.mono⟩
      · exact absurd hout hc
namespace Bk
open PySem PySem.W PySem.Builtin SeqAt
theorem bytes_eq_int (a : Array UInt8) (t : Tok) (b : Int) (u : Tok) : Meets (Builtin.«bytes.__eq__» ⟨[.bytes a t, .int b u], []⟩) (fun _ R s => R (.ok (.ret .notImplemented)) s) :=
  .of_wp fun prog w A R s h => by
    show wpAny _ A.in1 (isInstance (.int b u) (.type "bytes") >>= fun r => _) _ _ s
    refine wpAny_bind (wpAny_isInstance (typeIs_int s b u) (b := false) (by rw [isSubtype_type]; kernel_rfl) ?_)
    refine wpAny_bind (m := rule _) (wpAny_rule ?_)
    exact wpAny_pure ⟨_, rfl, h⟩
theorem bytes_eq_bool (a : Array UInt8) (t : Tok) (b : Bool) : Meets (Builtin.«bytes.__eq__» ⟨[.bytes a t, .bool b], []⟩) (fun _ R s => R (.ok (.ret .notImplemented)) s) :=
  .of_wp fun prog w A R s h => by
    show wpAny _ A.in1 (isInstance (.bool b) (.type "bytes") >>= fun r => _) _ _ s
    refine wpAny_bind (wpAny_isInstance (T := "bool") rfl (b := false) (by rw [isSubtype_type]; kernel_rfl) ?_)
    refine wpAny_bind (m := rule _) (wpAny_rule ?_)
    exact wpAny_pure ⟨_, rfl, h⟩
theorem int_eq_bytes (b : Int) (u : Tok) (a : Array UInt8) (t : Tok) : Gives (Builtin.«int.__eq__» ⟨[.int b u, .bytes a t], []⟩) (.val (Value.notImplemented)) :=
  .of_wp fun M A E s Q h => by obtain ⟨hp, g, d, tk, os⟩ := s; wp_walk; exact ⟨_, rfl, h⟩
theorem bool_eq_bytes (b : Bool) (a : Array UInt8) (t : Tok) : Gives (Builtin.«int.__eq__» ⟨[.bool b, .bytes a t], []⟩) (.val (Value.notImplemented)) :=
  .of_wp fun M A E s Q h => by obtain ⟨hp, g, d, tk, os⟩ := s; wp_walk; exact ⟨_, rfl, h⟩
theorem bytes_eq_tuple (a : Array UInt8) (t : Tok) (l : Addr) (items : Array Value) (n : Nat) (dd : Option Addr) (sl : Array (Option Value)) :
    Meets (Builtin.«bytes.__eq__» ⟨[.bytes a t, .ref l], []⟩) (fun _ R s => s.heap.get? l = some { cls := .type "tuple", dict := dd, data := .seq items n, slots := sl } ∧ R (.ok (.ret .notImplemented)) s) :=
  .of_wp fun prog w A R s h => by
    obtain ⟨hl, h⟩ := h
    show wpAny _ A.in1 (isInstance (.ref l) (.type "bytes") >>= fun r => _) _ _ s
    refine wpAny_bind (wpAny_isInstance (T := "tuple") ⟨_, hl, rfl⟩ (b := false) (by rw [isSubtype_type]; kernel_rfl) ?_)
    refine wpAny_bind (m := rule _) (wpAny_rule ?_)
    exact wpAny_pure ⟨_, rfl, h⟩
theorem tuple_eq_bytes (l : Addr) (items : Array Value) (n : Nat) (dd : Option Addr) (sl : Array (Option Value)) (a : Array UInt8) (t : Tok) :
    Meets (Builtin.«tuple.__eq__» ⟨[.ref l, .bytes a t], []⟩) (fun _ R s => s.heap.get? l = some { cls := .type "tuple", dict := dd, data := .seq items n, slots := sl } ∧ R (.ok (.ret .notImplemented)) s) :=
  .of_wp fun prog w A R s h => by
    obtain ⟨hp, g, d, tk, os⟩ := s; obtain ⟨hl, h⟩ := h
    have f1 : isSubtype (.type "bytes") (.type "tuple") = pure false := by rw [isSubtype_type]; kernel_rfl
    wp_walk using wpAny_loadPart' hl; exact ⟨_, rfl, h⟩
theorem slot_bytes_eq_refl : Slot "bytes" (cmpInfo .Eq).2.2 "bytes.__eq__" :=
  .of (owner := "bytes") (n := "__eq__") (by rw [typeLookup_type, builtinLookup_eq_fast]; kernel_rfl) (by decide +kernel) (by decide +kernel) (by decide +kernel)
    (by first | exact .inl (by decide +kernel) | exact .inr (by decide +kernel)) (by rw [isSubtype_type]; kernel_rfl)
section
variable {A : Around} {s : Shared}
theorem rc_int_bytes (a : Int) (t : Tok) (b : Array UInt8) (u : Tok) : RcAt A s (.int a t) (.bytes b u) false := fun prog w E Q h =>
  rc_eq_decline_or (k := false) (typeIs_int s a t) (typeIs_bytes s b u) (by decide) (by rw [isSubtype_type]; kernel_rfl) F.slot_int_eq slot_bytes_eq_refl
    (fun _ hq => call_gives F.slot_int_eq (typeIs_int s a t) F.entry_int_eq (F.args_int_eq_2 _ _) (int_eq_bytes a t b u) hq)
    (fun _ hq => call_meets slot_bytes_eq_refl (typeIs_bytes s b u) FB.entry_bytes_eq (FB.args_bytes_eq_2 _ _) (bytes_eq_int b u a t) hq)
    (fun _ hq => wpAny_of_eq (rfl : isSame (.int a t) (.bytes b u) = pure false) hq) (.inl rfl) h
theorem rc_bytes_int (b : Array UInt8) (u : Tok) (a : Int) (t : Tok) : RcAt A s (.bytes b u) (.int a t) false := fun prog w E Q h =>
  rc_eq_decline_or (k := false) (typeIs_bytes s b u) (typeIs_int s a t) (by decide) (by rw [isSubtype_type]; kernel_rfl) FB.slot_bytes_eq F.slot_int_eq_refl
    (fun _ hq => call_meets FB.slot_bytes_eq (typeIs_bytes s b u) FB.entry_bytes_eq (FB.args_bytes_eq_2 _ _) (bytes_eq_int b u a t) hq)
    (fun _ hq => call_gives F.slot_int_eq_refl (typeIs_int s a t) F.entry_int_eq (F.args_int_eq_2 _ _) (int_eq_bytes a t b u) hq)
    (fun _ hq => wpAny_of_eq (rfl : isSame (.bytes b u) (.int a t) = pure false) hq) (.inl rfl) h
theorem rc_bool_bytes (a : Bool) (b : Array UInt8) (u : Tok) : RcAt A s (.bool a) (.bytes b u) false := fun prog w E Q h =>
  rc_eq_decline_or (k := false) (Ta := "bool") rfl (typeIs_bytes s b u) (by decide) (by rw [isSubtype_type]; kernel_rfl) F.slot_bool_eq slot_bytes_eq_refl
    (fun _ hq => call_gives F.slot_bool_eq rfl F.entry_int_eq (F.args_int_eq_2 _ _) (bool_eq_bytes a b u) hq)
    (fun _ hq => call_meets slot_bytes_eq_refl (typeIs_bytes s b u) FB.entry_bytes_eq (FB.args_bytes_eq_2 _ _) (bytes_eq_bool b u a) hq)
    (fun _ hq => wpAny_of_eq (rfl : isSame (.bool a) (.bytes b u) = pure false) hq) (.inl rfl) h
theorem rc_bytes_bool (b : Array UInt8) (u : Tok) (a : Bool) : RcAt A s (.bytes b u) (.bool a) false := fun prog w E Q h =>
  rc_eq_decline_or (k := false) (Tb := "bool") (typeIs_bytes s b u) rfl (by decide) (by rw [isSubtype_type]; kernel_rfl) FB.slot_bytes_eq F.slot_bool_eq_refl
    (fun _ hq => call_meets FB.slot_bytes_eq (typeIs_bytes s b u) FB.entry_bytes_eq (FB.args_bytes_eq_2 _ _) (bytes_eq_bool b u a) hq)
    (fun _ hq => call_gives F.slot_bool_eq_refl rfl F.entry_int_eq (F.args_int_eq_2 _ _) (bool_eq_bytes a b u) hq)
    (fun _ hq => wpAny_of_eq (rfl : isSame (.bytes b u) (.bool a) = pure false) hq) (.inl rfl) h
theorem rc_tuple_bytes {l : Addr} {items : Array Value} (b : Array UInt8) (u : Tok) (hl : s.heap.IsTuple l items) (hu : A.units < cLine) : RcAt A s (.ref l) (.bytes b u) false := fun prog w E Q h => by
  obtain ⟨⟨cls, dd, data, sl⟩, ho, hc, n, hd⟩ := id hl
  simp only at hc hd
  subst hc hd
  exact rc_eq_decline_or (k := false) ⟨_, ho, rfl⟩ (typeIs_bytes s b u) (by decide) (by rw [isSubtype_type]; kernel_rfl) F.slot_tuple_eq slot_bytes_eq_refl
    (fun _ hq => call_meets F.slot_tuple_eq ⟨_, ho, rfl⟩ F.entry_tuple_eq (F.args_tuple_eq_2 _ _) (tuple_eq_bytes l items n dd sl b u) ⟨ho, hq⟩)
    (fun _ hq => call_meets slot_bytes_eq_refl (typeIs_bytes s b u) FB.entry_bytes_eq (FB.args_bytes_eq_2 _ _) (bytes_eq_tuple b u l items n dd sl) ⟨ho, hq⟩)
    (fun _ hq => wpAny_of_eq (rfl : isSame (.ref l) (.bytes b u) = pure false) hq) (.inr hu) h
theorem rc_bytes_tuple {l : Addr} {items : Array Value} (b : Array UInt8) (u : Tok) (hl : s.heap.IsTuple l items) (hu : A.units < cLine) : RcAt A s (.bytes b u) (.ref l) false := fun prog w E Q h => by
  obtain ⟨⟨cls, dd, data, sl⟩, ho, hc, n, hd⟩ := id hl
  simp only at hc hd
  subst hc hd
  exact rc_eq_decline_or (k := false) (typeIs_bytes s b u) ⟨_, ho, rfl⟩ (by decide) (by rw [isSubtype_type]; kernel_rfl) FB.slot_bytes_eq F.slot_tuple_eq_refl
    (fun _ hq => call_meets FB.slot_bytes_eq (typeIs_bytes s b u) FB.entry_bytes_eq (FB.args_bytes_eq_2 _ _) (bytes_eq_tuple b u l items n dd sl) ⟨ho, hq⟩)
    (fun _ hq => call_meets F.slot_tuple_eq_refl ⟨_, ho, rfl⟩ F.entry_tuple_eq (F.args_tuple_eq_2 _ _) (tuple_eq_bytes l items n dd sl b u) ⟨ho, hq⟩)
    (fun _ hq => wpAny_of_eq (rfl : isSame (.bytes b u) (.ref l) = pure false) hq) (.inr hu) h
theorem eq_int_bytes (a : Int) (t : Tok) (b : Array UInt8) (u : Tok) : EqAt A s (.int a t) (.bytes b u) false := fun prog w E Q h => by
  unfold eqBool
  refine wpAny_holding ?_
  refine wpAny_ite_split (fun hab => absurd (eq_of_beq hab) nofun) (fun _ => ?_)
  exact wpAny_bind (rc_int_bytes a t b u prog w E _ (wpAny_truthy_bool h))
theorem eq_bytes_int (b : Array UInt8) (u : Tok) (a : Int) (t : Tok) : EqAt A s (.bytes b u) (.int a t) false := fun prog w E Q h => by
  unfold eqBool
  refine wpAny_holding ?_
  refine wpAny_ite_split (fun hab => absurd (eq_of_beq hab) nofun) (fun _ => ?_)
  exact wpAny_bind (rc_bytes_int b u a t prog w E _ (wpAny_truthy_bool h))
theorem eq_bool_bytes (a : Bool) (b : Array UInt8) (u : Tok) : EqAt A s (.bool a) (.bytes b u) false := fun prog w E Q h => by
  unfold eqBool
  refine wpAny_holding ?_
  refine wpAny_ite_split (fun hab => absurd (eq_of_beq hab) nofun) (fun _ => ?_)
  exact wpAny_bind (rc_bool_bytes a b u prog w E _ (wpAny_truthy_bool h))
theorem eq_bytes_bool (b : Array UInt8) (u : Tok) (a : Bool) : EqAt A s (.bytes b u) (.bool a) false := fun prog w E Q h => by
  unfold eqBool
  refine wpAny_holding ?_
  refine wpAny_ite_split (fun hab => absurd (eq_of_beq hab) nofun) (fun _ => ?_)
  exact wpAny_bind (rc_bytes_bool b u a prog w E _ (wpAny_truthy_bool h))
theorem eq_tuple_bytes {l : Addr} {items : Array Value} (b : Array UInt8) (u : Tok) (hl : s.heap.IsTuple l items) (hu : A.units < cLine) : EqAt A s (.ref l) (.bytes b u) false := fun prog w E Q h => by
  unfold eqBool
  refine wpAny_holding ?_
  refine wpAny_ite_split (fun hab => absurd (eq_of_beq hab) nofun) (fun _ => ?_)
  exact wpAny_bind (rc_tuple_bytes b u hl hu prog w E _ (wpAny_truthy_bool h))
theorem eq_bytes_tuple {l : Addr} {items : Array Value} (b : Array UInt8) (u : Tok) (hl : s.heap.IsTuple l items) (hu : A.units < cLine) : EqAt A s (.bytes b u) (.ref l) false := fun prog w E Q h => by
  unfold eqBool
  refine wpAny_holding ?_
  refine wpAny_ite_split (fun hab => absurd (eq_of_beq hab) nofun) (fun _ => ?_)
  exact wpAny_bind (rc_bytes_tuple b u hl hu prog w E _ (wpAny_truthy_bool h))
end
end Bk
inductive Pv | int (n : Int) | tru | by (x : List UInt8) | st
noncomputable def pyEq : Pv → Pv → Bool
  | .int a, .int b => a == b
  | .int a, .tru => a == (if true then 1 else 0)
  | .tru, .int b => (if true then 1 else 0) == b
  | .tru, .tru => true
  | .by x, .by y => decide (x = y)
  | .st, .st => true
  | _, _ => false
noncomputable def PvG (S : Value → Prop) : Pv → Value → Prop
  | .int n, v => ∃ t, v = .int n t
  | .tru, v => v = .bool true
  | .by x, v => ∃ t, v = .bytes x.toArray t
  | .st, v => S v
theorem PvG.mono {S S' : Value → Prop} (h : ∀ v, S v → S' v) {p : Pv} {v : Value} (x : PvG S p v) : PvG S' p v := by
  cases p with
  | int n => exact x
  | tru => exact x
  | «by» y => exact x
  | st => exact h _ x
theorem pyEq_same {S S' : Value → Prop} (hS : ∀ v, S v → ∃ a, v = .ref a) (hS' : ∀ v, S' v → ∃ a, v = .ref a) {p q : Pv} {v : Value} (x : PvG S p v) (y : PvG S' q v) : pyEq p q = true := by
  cases p with
  | int n =>
    obtain ⟨t, rfl⟩ := x
    cases q with
    | int m =>
      obtain ⟨t', e⟩ := y
      injection e with e1 e2
      subst e1
      simp [pyEq]
    | tru => exact absurd y nofun
    | «by» z => obtain ⟨t', e⟩ := y; exact absurd e nofun
    | st => obtain ⟨a, e⟩ := hS' _ y; exact absurd e nofun
  | tru =>
    obtain rfl : v = .bool true := x
    cases q with
    | int m => obtain ⟨t', e⟩ := y; exact absurd e nofun
    | tru => rfl
    | «by» z => obtain ⟨t', e⟩ := y; exact absurd e nofun
    | st => obtain ⟨a, e⟩ := hS' _ y; exact absurd e nofun
  | «by» z =>
    obtain ⟨t, rfl⟩ := x
    cases q with
    | int m => obtain ⟨t', e⟩ := y; exact absurd e nofun
    | tru => exact absurd y nofun
    | «by» z' =>
      obtain ⟨t', e⟩ := y
      injection e with e1 e2
      injection e1 with e1
      subst e1
      simp [pyEq]
    | st => obtain ⟨a, e⟩ := hS' _ y; exact absurd e nofun
  | st =>
    obtain ⟨a, rfl⟩ := hS _ x
    cases q with
    | int m => obtain ⟨t', e⟩ := y; exact absurd e nofun
    | tru => exact absurd y nofun
    | «by» z => obtain ⟨t', e⟩ := y; exact absurd e nofun
    | st => rfl
theorem EqL.up {C : Cst} {c : Fc} {H : HL} {k k' : Nat} {a b : Value} {r : Bool} (h : EqL C c H k a b r) (hk : k ≤ k') : EqL C c H k' a b r := fun A g hh tk hA hu N => h A g hh tk hA (by omega) N
theorem EqL.mem {C : Cst} {c : Fc} {H : HL} {k : Nat} {a : Value} : EqL C c H k a a true := fun _ _ _ _ _ _ _ => SeqAt.EqAt.same _
theorem EqL.pv {C : Cst} {c : Fc} {H : HL} {k : Nat} {S S' : Value → Prop} (hS : ∀ v, S v → ∃ a vs, v = .ref a ∧ (a, tupOf vs) ∈ H) (hS' : ∀ v, S' v → ∃ a vs, v = .ref a ∧ (a, tupOf vs) ∈ H) (hh : ∀ u v, S u → S' v → EqL C c H k u v true)
    {p q : Pv} {u v : Value} (x : PvG S p u) (y : PvG S' q v) : EqL C c H k u v (pyEq p q) := by
  have tp : ∀ {h : Heap} {g : Heap} {a : Addr} {vs : List Value}, Led g c h H → (a, tupOf vs) ∈ H → h.IsTuple a vs.toArray := fun N m => ⟨_, N.get m, rfl, 0, rfl⟩
  cases p with
  | int n =>
    obtain ⟨t, rfl⟩ := x
    cases q with
    | int m => obtain ⟨t', rfl⟩ := y; exact EqL.int
    | tru => obtain rfl : v = .bool true := y; exact fun _ _ _ _ _ _ _ => SeqAt.EqAt.int_bool n t true
    | «by» z => obtain ⟨t', rfl⟩ := y; exact fun _ _ _ _ _ _ _ => Bk.eq_int_bytes _ _ _ _
    | st => obtain ⟨a, vs, rfl, hm⟩ := hS' _ y; exact fun A g h tk hA hu N => SeqAt.EqAt.int_tuple (s := C.sh h tk) n t (tp N hm) (by omega)
  | tru =>
    obtain rfl : u = .bool true := x
    cases q with
    | int m => obtain ⟨t', rfl⟩ := y; exact fun _ _ _ _ _ _ _ => SeqAt.EqAt.bool_int true m t'
    | tru => obtain rfl : v = .bool true := y; exact EqL.mem
    | «by» z => obtain ⟨t', rfl⟩ := y; exact fun _ _ _ _ _ _ _ => Bk.eq_bool_bytes _ _ _
    | st => obtain ⟨a, vs, rfl, hm⟩ := hS' _ y; exact fun A g h tk hA hu N => SeqAt.EqAt.bool_tuple (s := C.sh h tk) true (tp N hm) (by omega)
  | «by» z =>
    obtain ⟨t, rfl⟩ := x
    cases q with
    | int m => obtain ⟨t', rfl⟩ := y; exact fun _ _ _ _ _ _ _ => Bk.eq_bytes_int _ _ _ _
    | tru => obtain rfl : v = .bool true := y; exact fun _ _ _ _ _ _ _ => Bk.eq_bytes_bool _ _ _
    | «by» z' => obtain ⟨t', rfl⟩ := y; exact EqL.bytes
    | st => obtain ⟨a, vs, rfl, hm⟩ := hS' _ y; exact fun A g h tk hA hu N => Bk.eq_bytes_tuple (s := C.sh h tk) _ _ (tp N hm) (by omega)
  | st =>
    cases q with
    | int m => obtain ⟨a, vs, rfl, hm⟩ := hS _ x; obtain ⟨t', rfl⟩ := y; exact fun A g h tk hA hu N => SeqAt.EqAt.tuple_int (s := C.sh h tk) m t' (tp N hm) (by omega)
    | tru => obtain ⟨a, vs, rfl, hm⟩ := hS _ x; obtain rfl : v = .bool true := y; exact fun A g h tk hA hu N => SeqAt.EqAt.tuple_bool (s := C.sh h tk) true (tp N hm) (by omega)
    | «by» z => obtain ⟨a, vs, rfl, hm⟩ := hS _ x; obtain ⟨t', rfl⟩ := y; exact fun A g h tk hA hu N => Bk.eq_tuple_bytes (s := C.sh h tk) _ _ (tp N hm) (by omega)
    | st => exact hh _ _ x y
inductive Ky | i0 | i1 | i3 | tru | ba | be | bn | st
deriving DecidableEq
noncomputable def Ky.pv : Ky → Pv
  | .i0 => .int 0
  | .i1 => .int 1
  | .i3 => .int 3
  | .tru => .tru
  | .ba => .by [97]
  | .be => .by []
  | .bn => .by [110, 101, 119]
  | .st => .st
noncomputable def Ky.tag : Ky → Str
  | .i0 | .i1 | .i3 => "int"
  | .tru => "bool"
  | .ba | .be | .bn => "text"
  | .st => "struct"
inductive StK (H : HL) (v : Value) : Prop
  | mk (a : Addr) (b : Addr) (t1 : Tok) (t2 : Tok) (t3 : Tok) (q0 : v = .ref a) (q1 : (a, tupOf [.str "struct" t1, .ref b]) ∈ H) (q2 : (b, tupOf [.int 1 t2, .bytes [97].toArray t3]) ∈ H) : StK H v
inductive StM (H : HL) (v : Value) : Prop
  | mk (b : Addr) (c1 : Addr) (c2 : Addr) (t1 : Tok) (t2 : Tok) (t3 : Tok) (t4 : Tok) (q0 : v = .ref b) (q1 : (b, tupOf [.ref c1, .ref c2]) ∈ H) (q2 : (c1, tupOf [.str "int" t1, .int 1 t2]) ∈ H) (q3 : (c2, tupOf [.str "text" t3, .bytes [97].toArray t4]) ∈ H) : StM H v
noncomputable def KeyV (k : Ky) (v : Value) (H : HL) : Prop := PvG (StK H) k.pv v
inductive MarkV (k : Ky) (v : Value) (H : HL) : Prop
  | mk (a : Addr) (t : Tok) (x : Value) (q0 : v = .ref a) (q1 : (a, tupOf [.str k.tag t, x]) ∈ H) (q2 : PvG (StM H) k.pv x) : MarkV k v H
theorem StK.sub {H H' : HL} {v : Value} (h : StK H v) (s : TSub H H') : StK H' v := by
  obtain ⟨a, b, t1, t2, t3, rfl, h1, h2⟩ := h
  exact ⟨a, b, t1, t2, t3, rfl, s _ _ h1, s _ _ h2⟩
theorem StM.sub {H H' : HL} {v : Value} (h : StM H v) (s : TSub H H') : StM H' v := by
  obtain ⟨b, c1, c2, t1, t2, t3, t4, rfl, h1, h2, h3⟩ := h
  exact ⟨b, c1, c2, t1, t2, t3, t4, rfl, s _ _ h1, s _ _ h2, s _ _ h3⟩
theorem KeyV.ts {k : Ky} {v : Value} {H H' : HL} (h : KeyV k v H) (s : TSub H H') : KeyV k v H' := h.mono fun _ x => x.sub s
theorem MarkV.ts {k : Ky} {v : Value} {H H' : HL} (h : MarkV k v H) (s : TSub H H') : MarkV k v H' := by
  obtain ⟨a, t, x, rfl, h1, h2⟩ := h
  exact ⟨a, t, x, rfl, s _ _ h1, h2.mono fun _ x => x.sub s⟩
theorem KeyV.sub {k : Ky} {v : Value} {H H' : HL} (h : KeyV k v H) (s : ∀ p ∈ H, p ∈ H') : KeyV k v H' := h.ts fun _ _ hm => s _ hm
theorem MarkV.sub {k : Ky} {v : Value} {H H' : HL} (h : MarkV k v H) (s : ∀ p ∈ H, p ∈ H') : MarkV k v H' := h.ts fun _ _ hm => s _ hm
theorem StK.tup {H : HL} (v : Value) (h : StK H v) : ∃ a vs, v = .ref a ∧ (a, tupOf vs) ∈ H := by
  obtain ⟨a, b, t1, t2, t3, rfl, h1, h2⟩ := h
  exact ⟨a, _, rfl, h1⟩
theorem StM.tup {H : HL} (v : Value) (h : StM H v) : ∃ a vs, v = .ref a ∧ (a, tupOf vs) ∈ H := by
  obtain ⟨b, c1, c2, t1, t2, t3, t4, rfl, h1, h2, h3⟩ := h
  exact ⟨b, _, rfl, h1⟩
theorem EqL.st {C : Cst} {c : Fc} {H : HL} {u v : Value} (x : StK H u) (y : StK H v) : EqL C c H 2 u v true := by
  obtain ⟨a, b, t1, t2, t3, rfl, h1, h2⟩ := x
  obtain ⟨a', b', t1', t2', t3', rfl, h1', h2'⟩ := y
  have e1 : EqL C c H 1 (.ref b) (.ref b') (((1 : Int) == 1) && decide (([97] : List UInt8).toArray.toList = ([97] : List UInt8).toArray.toList)) := EqL.pair h2 h2' EqL.int EqL.bytes fun _ _ => by simp
  have e2 := EqL.pair (k := 1) h1 h1' (EqL.str (C := C) (c := c)) e1 fun _ _ => by simp
  simpa using e2
theorem EqL.sm {C : Cst} {c : Fc} {H : HL} {u v : Value} (x : StM H u) (y : StM H v) : EqL C c H 2 u v true := by
  obtain ⟨b, c1, c2, t1, t2, t3, t4, rfl, h1, h2, h3⟩ := x
  obtain ⟨b', c1', c2', t1', t2', t3', t4', rfl, h1', h2', h3'⟩ := y
  have e1 : EqL C c H 1 (.ref c1) (.ref c1') ((Str.ofString "int" == Str.ofString "int") && ((1 : Int) == 1)) := EqL.pair h2 h2' EqL.str EqL.int fun _ _ => by simp
  have e2 : EqL C c H 1 (.ref c2) (.ref c2') ((Str.ofString "text" == Str.ofString "text") && decide (([97] : List UInt8).toArray.toList = ([97] : List UInt8).toArray.toList)) := EqL.pair h3 h3' EqL.str EqL.bytes fun _ _ => by simp
  have e3 := EqL.pair (k := 1) h1 h1' e1 e2 fun _ _ => by simp
  simpa using e3
theorem EqL.key {C : Cst} {c : Fc} {H : HL} {k k' : Ky} {u v : Value} (x : KeyV k u H) (y : KeyV k' v H) : EqL C c H 2 u v (pyEq k.pv k'.pv) := EqL.pv StK.tup StK.tup (fun _ _ => EqL.st) x y
theorem EqL.mk {C : Cst} {c : Fc} {H : HL} {k k' : Ky} {u v : Value} (x : PvG (StM H) k.pv u) (y : PvG (StM H) k'.pv v) : EqL C c H 2 u v (pyEq k.pv k'.pv) := EqL.pv StM.tup StM.tup (fun _ _ => EqL.sm) x y
theorem mark_eq : ∀ k k' : Ky, ((k.tag == k'.tag) && pyEq k.pv k'.pv) = decide (k = k') := by
  intro k k'
  cases k <;> cases k' <;> rfl
theorem W_eqMark {C : Cst} {c : Fc} {n : Nat} {m : Mp} {H : HL} (O : Ok C c (n + 1)) {k k' : Ky} {u v : Value} {Q : Value → Mp → HL → Prop} (x : MarkV k u H) (y : MarkV k' v H) (h : Q (.bool (decide (k = k'))) m H) : W C c m H (compareOp .Eq u v) Q := by
  obtain ⟨a, t, x1, rfl, h1, h2⟩ := x
  obtain ⟨b, t', x2, rfl, h3, h4⟩ := y
  exact W_eqPair O h1 h3 EqL.str ((EqL.mk h2 h4).up (by omega)) (by rw [mark_eq]; exact h)
theorem W_neMark {C : Cst} {c : Fc} {n : Nat} {m : Mp} {H : HL} (O : Ok C c (n + 1)) {k k' : Ky} {u v : Value} {Q : Value → Mp → HL → Prop} (x : MarkV k u H) (y : MarkV k' v H) (h : Q (.bool (!decide (k = k'))) m H) : W C c m H (compareOp .NotEq u v) Q := by
  obtain ⟨a, t, x1, rfl, h1, h2⟩ := x
  obtain ⟨b, t', x2, rfl, h3, h4⟩ := y
  exact W_nePair O h1 h3 EqL.str ((EqL.mk h2 h4).up (by omega)) (by rw [mark_eq]; exact h)
theorem under_tc (c : Fc) (Ca : Addr) (args : List Value) : c.A.under (.builtin "type.__call__" ⟨.ref Ca :: args, []⟩) = { handled := none, depth := c.dp + 1, frames := some (c.env :: c.outer), guards := some [], units := c.un + 1 } := by
  first | rfl | (simp [Around.under, Code.cUnits, Code.frames, Code.isFrame, Code.weight]; done) | (unfold Around.under; congr 1)
theorem W_newInst {C : Cst} {c : Fc} {m : Mp} {H : HL} {n : Nat} {Ca f : Addr} {name qual : Str} {params : Arguments} {body : List Stmt} {scope : Scope} {dV kV doc pm cdv ct oc : Value} {an od : Option Addr} {osl : Array (Option Value)} {args : List Value} {binds : Addr → List (Str × Value)} {Q : Value → Mp → HL → Prop}
    (O : Ok C c (n + 2)) (hm : makesIn (Mine.kk C.w.params) Ca = true) (hi : findIn (Mine.kk C.w.params) (.ref Ca) "__init__" = some (some (.ref f))) (hf : isFn (Mine.kk C.w.params) (.ref f) = true)
    (ho : List.lookup f (Mine.kk C.w.params) = some ⟨oc, od, .func (fnOf name qual params body scope dV kV doc pm an cdv ct), osl⟩) (hcd : codeIn (Mine.kk C.w.params) cdv qual = true)
    (hb : ∀ x, bindArgs (fnOf name qual params body scope dV kV doc pm an cdv ct) ⟨.ref x :: args, []⟩ = pure (binds x)) (hloc : ∀ x, ((binds x).all fun x => decide (scope.names.lookup x.1 = some .local)) = true)
    (h : ∀ x dx dp un outer A₀ base h₀ L, Ok C ⟨dp, un, qual, scope, f, cdv, [], outer, A₀, base, h₀, L⟩ n →
      W C ⟨dp, un, qual, scope, f, cdv, [], outer, A₀, base, h₀, L⟩ (mOf (binds x)) ((x, instObj Ca dx) :: (dx, dictOf [] 0) :: H) (execs body (Fc.env ⟨dp, un, qual, scope, f, cdv, [], outer, A₀, base, h₀, L⟩)) (SP (fun _ H' => Dr (Q (.ref x) m) H') (fun v _ H' => v = .none ∧ Dr (Q (.ref x) m) H')))
    (hco : scope.isCoroutine = false) (hgen : scope.isGenerator = false) (hk : scope.kind = .function) (hcell : ∀ x ∈ scope.names, x.2 ≠ .cell) :
    W C c m H (call (.ref Ca) args) Q := fun g hh tk T F N => by
  refine call_cls F (O.K T) N.N hm hi hf fun x dx h1 F1 N1 l1 l2 => ?_
  rw [under_tc]
  have N1' : Led g c h1 ((x, instObj Ca dx) :: (dx, dictOf [] 0) :: H) := by
    refine ⟨N1, ?_⟩
    rw [List.map_cons, List.map_cons]
    refine List.nodup_cons.mpr ⟨fun q => ?_, List.nodup_cons.mpr ⟨fun q => ?_, N.nd⟩⟩
    · rcases List.mem_cons.mp q with q | q
      · exact Nat.ne_of_lt l2 q.symm
      · obtain ⟨p, hp, e⟩ := List.mem_map.mp q
        exact Nat.ne_of_lt (Nat.lt_trans (l1 p hp) l2) e
    · obtain ⟨p, hp, e⟩ := List.mem_map.mp q
      exact Nat.ne_of_lt (l1 p hp) e
  obtain ⟨BG, st, DG, FG⟩ := enterG O T F1 N1' (A' := { handled := none, depth := c.dp + 1, frames := some (c.env :: c.outer), guards := some [], units := c.un + 1 }) rfl
  have X := (O.K T).keeps F1.keep
  refine codeAny_call_def (fd := fnOf name qual params body scope dV kV doc pm an cdv ct) (body := body) (binds := binds x) (by have := O.hd; show c.dp + 1 < recursionLimit; omega) (X _ _ ho) rfl ((O.T T).nolimit.keeps F1.keep) (codeRec_of X hcd) rfl (BindsTo.of_eq (hb x)) hcell (locs (hloc x)) (fun h₁ hns hk₁ => ?_) hco hgen hk
  rw [mOf_eq] at hns
  have O' : Ok C ⟨c.dp + 1 + 1, c.un + 1 + 3, qual, scope, f, cdv, [], c.env :: c.outer, { handled := none, depth := c.dp + 1, frames := some (c.env :: c.outer), guards := some [], units := c.un + 1 }, c.base, ghostFor h1 ((x, instObj Ca dx) :: (dx, dictOf [] 0) :: H), h1.objs.size⟩ n := ⟨BG, DG, O.XB, O.TB, hk, by have := O.hd; simp only; omega, by have := O.hu; simp only; omega⟩
  refine (h x dx _ _ _ _ _ _ _ O').run (tk := tk + (binds x).length) KtsTurn.refl ⟨hns, fun b o e => hk₁ b o (of_hideAll _ e), Nat.le_of_eq (hideAll_size _ _)⟩
    ⟨fun p hp => ⟨hk₁ _ _ (N1'.N p hp).1, Nat.ne_of_lt (Heap.lt_size (N1'.N p hp).1), hideAll_none _ (List.mem_map_of_mem hp)⟩, N1'.nd⟩ fun fl g' h' tk' m' H' T1 F1' N1'' q => ?_
  obtain ⟨g2, T2, F2, N2⟩ := leaveG O T F1 N1' T1 F1' N1''.N N1''.nd
  cases fl with
  | next => obtain ⟨H2, l2, q⟩ := q; exact ⟨rfl, Po.in T2 F2 (N2.le l2) q⟩
  | ret v => obtain ⟨rfl, H2, l2, q⟩ := q; exact ⟨rfl, Po.in T2 F2 (N2.le l2) q⟩
  | brk => exact q.elim
  | cont => exact q.elim
theorem W_isinst {C : Cst} {c : Fc} {m : Mp} {H : HL} {n : Nat} {x t cv : Value} {b : Bool} {Hp : Heap → Prop} {Q : Value → Mp → HL → Prop} (O : Ok C c n) (Z : KitX (Mine.kk C.w.params) x t Hp) (p : ∀ g h, Led g c h H → Hp h) (e : kitOne (Mine.kk C.w.params) t cv = some b)
    (hx : x ≠ .builtin "__main__.__loader__#opaque") (h : Q (.bool b) m H) : W C c m H (call (.builtin "isinstance") [x, cv]) Q := fun g hh tk T F N =>
  kia_one Z ((O.K T).keeps F.keep) (p _ _ N) e hx fun tk' => Po.in T F N h
theorem W_inTup {C : Cst} {c : Fc} {m : Mp} {H : HL} {t : Addr} {items : List Value} {ys : List Str} {x : Str} {u : Tok} {Q : Value → Mp → HL → Prop} (ht : (t, tupOf items) ∈ H) (hi : StrsAre items ys) (h : Q (.bool (ys.any (· == x))) m H) : W C c m H (compareOp .In (.str x u) (.ref t)) Q := fun _ _ _ T F N =>
  in_tuple_strs (items := items.toArray) ⟨_, N.get ht, rfl, 0, rfl⟩ hi (Po.in T F N h)
theorem W_inTupK {C : Cst} {c : Fc} {m : Mp} {H : HL} {n nn : Nat} {t : Addr} {dd : Option Addr} {sl : Array (Option Value)} {items : Array Value} {ys : List Str} {x : Str} {u : Tok} {Q : Value → Mp → HL → Prop} (O : Ok C c n) (ht : List.lookup t (Mine.kk C.w.params) = some ⟨.type "tuple", dd, .seq items nn, sl⟩) (hi : StrsAre items.toList ys) (h : Q (.bool (ys.any (· == x))) m H) :
    W C c m H (compareOp .In (.str x u) (.ref t)) Q := fun _ _ _ T F N =>
  in_tuple_strs (items := items) ⟨_, ((O.K T).keeps F.keep) _ _ ht, rfl, nn, rfl⟩ hi (Po.in T F N h)
theorem W_notinInts {C : Cst} {c : Fc} {m : Mp} {H : HL} {l : Addr} {vs : List Value} {e : Nat} {ns : List Int} {k : Int} {t : Tok} {Q : Value → Mp → HL → Prop} (hl : (l, lstOf vs e) ∈ H) (hi : IntsAre vs ns) (h : Q (.bool (!(ns.any (· == k)))) m H) : W C c m H (compareOp .NotIn (.int k t) (.ref l)) Q := fun _ _ _ T F N =>
  notin_list_ints ⟨_, N.get hl, rfl, e, rfl⟩ hi (Po.in T F N h)
theorem W_eqNil {C : Cst} {c : Fc} {n : Nat} {m : Mp} {H : HL} (O : Ok C c (n + 1)) {l b : Addr} {vs : List Value} {e e' : Nat} {Q : Value → Mp → HL → Prop} (hl : (l, lstOf vs e) ∈ H) (hb : (b, lstOf [] e') ∈ H) (h : Q (.bool vs.isEmpty) m H) : W C c m H (compareOp .Eq (.ref l) (.ref b)) Q := fun _ hh tk T F N => by
  have hu : c.A.units < cLine := by have := O.hu; show c.un < cLine; omega
  cases vs with
  | nil => exact SeqAt.RcAt.lists (s := C.sh hh tk) (e := fun _ => true) ⟨_, N.get hl, rfl, e, rfl⟩ ⟨_, N.get hb, rfl, e', rfl⟩ rfl hu (fun j h1 _ => absurd h1 (Nat.not_lt_zero _)) _ _ _ _ (Po.in T F N h)
  | cons v vs => exact SeqAt.RcAt.lists_lengths (s := C.sh hh tk) ⟨_, N.get hl, rfl, e, rfl⟩ ⟨_, N.get hb, rfl, e', rfl⟩ (by simp) hu _ _ _ _ (Po.in T F N h)
theorem W_neNil {C : Cst} {c : Fc} {n : Nat} {m : Mp} {H : HL} (O : Ok C c (n + 1)) {l b : Addr} {vs : List Value} {e e' : Nat} {Q : Value → Mp → HL → Prop} (hl : (l, lstOf vs e) ∈ H) (hb : (b, lstOf [] e') ∈ H) (h : Q (.bool (!vs.isEmpty)) m H) : W C c m H (compareOp .NotEq (.ref l) (.ref b)) Q := fun _ hh tk T F N => by
  have hu : c.A.units < cLine := by have := O.hu; show c.un < cLine; omega
  cases vs with
  | nil => exact SeqAt.RcNeAt.lists (s := C.sh hh tk) (e := fun _ => true) ⟨_, N.get hl, rfl, e, rfl⟩ ⟨_, N.get hb, rfl, e', rfl⟩ rfl hu (fun j h1 _ => absurd h1 (Nat.not_lt_zero _)) _ _ _ _ (Po.in T F N h)
  | cons v vs => exact SeqAt.RcNeAt.lists_lengths (s := C.sh hh tk) ⟨_, N.get hl, rfl, e, rfl⟩ ⟨_, N.get hb, rfl, e', rfl⟩ (by simp) hu _ _ _ _ (Po.in T F N h)
theorem W_neStr {C : Cst} {c : Fc} {m : Mp} {H : HL} {a b : Str} {t u : Tok} {Q : Value → Mp → HL → Prop} (h : Q (.bool (!(a == b))) m H) : W C c m H (compareOp .NotEq (.str a t) (.str b u)) Q := fun _ hh tk T F N => SeqAt.RcNeAt.str_str (s := C.sh hh tk) a t b u _ _ _ _ (Po.in T F N h)
theorem W_tupleOf {C : Cst} {c : Fc} {m : Mp} {H : HL} {l : Addr} {vs : List Value} {e : Nat} {Q : Value → Mp → HL → Prop} (hl : (l, lstOf vs e) ∈ H) (hz : vs.length ≤ 16384) (h : ∀ a, Q (.ref a) m ((a, tupOf vs) :: H)) : W C c m H (call (.type "tuple") [.ref l]) Q := fun g hh tk T F N =>
  kde_tupleOf (items := vs.toArray) (zs := vs) F N.N ⟨_, N.get hl, rfl, e, rfl⟩ (by simpa using hz) rfl (fun D h' F' N' l1 => Po.in T F' (N.cons' N' l1) (h D))
namespace Bk
open PySem PySem.W PySem.Builtin
theorem slot_bytes_repr : Slot "bytes" "__repr__" "bytes.__repr__" :=
  .of (owner := "bytes") (n := "__repr__") (by rw [typeLookup_type, builtinLookup_eq_fast]; kernel_rfl) (by decide +kernel) (by decide +kernel) (by decide +kernel)
    (by first | exact .inl (by decide +kernel) | exact .inr (by decide +kernel)) (by rw [isSubtype_type]; kernel_rfl)
theorem entry_bytes_repr : entryFor table "bytes.__repr__" = some Builtin.«bytes.__repr__» := entryFor_of_tree (by kernel_rfl)
theorem args_bytes_repr_1 (a : Value) : argsOk "bytes.__repr__" ⟨[a], []⟩ := by
  unfold argsOk; rw [signature?_of (id := "bytes.__repr__") (n := ['_', '_', 'r', 'p', 'e', 'r', '_', '_']) (o := ['s', 'e', 't', 'y', 'b']) (by kernel_rfl) FB.owner_bytes]; kernel_rfl
theorem gives_repr_ba (t : Tok) : Gives («bytes.__repr__» ⟨[.bytes [97].toArray t], []⟩) (.str (Str.ofString "b'a'")) := .of_eq (by kernel_rfl)
theorem gives_repr_be (t : Tok) : Gives («bytes.__repr__» ⟨[.bytes [].toArray t], []⟩) (.str (Str.ofString "b''")) := .of_eq (by kernel_rfl)
theorem gives_repr_bn (t : Tok) : Gives («bytes.__repr__» ⟨[.bytes [110, 101, 119].toArray t], []⟩) (.str (Str.ofString "b'new'")) := .of_eq (by kernel_rfl)
theorem reprIs_bytes {prog : Program} {w : World} {x : Array UInt8} {t : Tok} {y : Str} (g : Gives («bytes.__repr__» ⟨[.bytes x t], []⟩) (.str y)) (hy : y.length ≤ sizeLine) : ReprIs prog w (.bytes x t) y := fun n hn _ _ s _ h => by
  have hn' : n ≤ sizeLine := by omega
  rw [pyReprUnder_leaf (v := .bytes x t) hn' (fun _ e => nomatch e)]
  unfold pyRepr
  exact wpAny_bind (wpAny_pyReprObj_gives (typeIs_bytes s x t) slot_bytes_repr entry_bytes_repr (args_bytes_repr_1 _) g (wpAny_pure (h _)) (hx := hy))
end Bk
noncomputable def Ky.shown : Ky → Str
  | .i0 => "0"
  | .i1 => "1"
  | .i3 => "3"
  | .tru => "True"
  | .ba => "b'a'"
  | .be => "b''"
  | .bn => "b'new'"
  | .st => "('struct', (1, b'a'))"
theorem shown_inj : ∀ k k' : Ky, (k.shown == k'.shown) = decide (k = k') := by
  intro k k'
  cases k <;> cases k' <;> rfl
noncomputable abbrev prg : Program := PySem.Challenge.rw_on0025_01.prog
theorem shown_len : ∀ k : Ky, k.shown.length ≤ 30 := by intro k; cases k <;> exact Nat.le_of_ble_eq_true rfl
theorem st_shown : tupleText [reprText "struct", tupleText [Str.ofString (toString (1 : Int)), "b'a'"]] = Ky.st.shown := by kernel_rfl
theorem struct_len : (reprText (Str.ofString "struct")).length ≤ sizeLine := by
  have e : (reprText (Str.ofString "struct")).length = 8 := by kernel_rfl
  rw [e]
  exact Nat.le_of_ble_eq_true rfl
theorem repr_pair {C : Cst} {c : Fc} {g h : Heap} {H : HL} (N : Led g c h H) {as : List Addr} {d : Nat} {r : Addr} {x y : Value} {tx ty : Str} (hr : (r, tupOf [x, y]) ∈ H) (hn : r ∉ as) (hx : ReprK prg C.w as h d x tx) (hy : ReprK prg C.w as h d y ty) : ReprK prg C.w (r :: as) h (d + 1) (.ref r) (tupleText [tx, ty]) :=
  ReprK.tuple (items := [x, y].toArray) (N.get hr) rfl rfl hn (.cons hx (.cons hy .nil))
theorem pair_ne {c : Fc} {g h : Heap} {H : HL} (N : Led g c h H) {a b : Addr} {x y x' y' : Value} (ha : (a, tupOf [x, y]) ∈ H) (hb : (b, tupOf [x', y']) ∈ H) (hy : y ≠ y') : a ≠ b := fun z => by
  subst z
  have q := (N.get ha).symm.trans (N.get hb)
  have q3 := congrArg Obj.data (Option.some.inj q)
  injection q3 with q4
  injection q4 with q5
  injection q5 with _ q6
  injection q6 with q7
  exact hy q7
theorem reprIs_int {C : Cst} {n : Int} {t : Tok} (hn : n.natAbs < 1000) : ReprIs prg C.w (.int n t) (toString n) := ReprIs.int t (Nat.lt_of_le_of_lt (Nat.log2_le_self _) (by omega))
theorem KeyV.repr {C : Cst} {c : Fc} {g h : Heap} {H : HL} (N : Led g c h H) {k : Ky} {v : Value} (hv : KeyV k v H) : ∃ as, (∀ b ∈ as, ∃ x y, (b, tupOf [x, y]) ∈ H ∧ ∀ n t, y ≠ .int n t) ∧ ReprK prg C.w as h 2 v k.shown := by
  cases k with
  | i0 => obtain ⟨t, rfl⟩ := hv; exact ⟨[], nofun, .of_is (reprIs_int (by decide)) _ _ _⟩
  | i1 => obtain ⟨t, rfl⟩ := hv; exact ⟨[], nofun, .of_is (reprIs_int (by decide)) _ _ _⟩
  | i3 => obtain ⟨t, rfl⟩ := hv; exact ⟨[], nofun, .of_is (reprIs_int (by decide)) _ _ _⟩
  | tru => obtain rfl : v = .bool true := hv; exact ⟨[], nofun, .of_is (ReprIs.bool true) _ _ _⟩
  | ba => obtain ⟨t, rfl⟩ := hv; exact ⟨[], nofun, .of_is (Bk.reprIs_bytes (Bk.gives_repr_ba t) (by exact Nat.le_of_ble_eq_true rfl)) _ _ _⟩
  | be => obtain ⟨t, rfl⟩ := hv; exact ⟨[], nofun, .of_is (Bk.reprIs_bytes (Bk.gives_repr_be t) (by exact Nat.le_of_ble_eq_true rfl)) _ _ _⟩
  | bn => obtain ⟨t, rfl⟩ := hv; exact ⟨[], nofun, .of_is (Bk.reprIs_bytes (Bk.gives_repr_bn t) (by exact Nat.le_of_ble_eq_true rfl)) _ _ _⟩
  | st =>
    obtain ⟨a, b, t1, t2, t3, rfl, h1, h2⟩ : StK H v := hv
    have hne : a ≠ b := pair_ne N h1 h2 nofun
    refine ⟨[a, b], ?_, ?_⟩
    · intro d hd
      rcases List.mem_cons.mp hd with rfl | hd
      · exact ⟨_, _, h1, nofun⟩
      · rw [List.mem_singleton.mp hd]
        exact ⟨_, _, h2, nofun⟩
    · rw [← st_shown]
      refine repr_pair N h1 (by simpa using hne) (.of_is (ReprIs.str (Str.ofString "struct") t1 struct_len) _ _ _) ?_
      exact repr_pair (as := []) (d := 0) N h2 nofun (.of_is (reprIs_int (n := 1) (by decide)) _ _ _) (.of_is (Bk.reprIs_bytes (Bk.gives_repr_ba t3) (by exact Nat.le_of_ble_eq_true rfl)) _ _ _)
noncomputable def rowShown (k : Ky) (n : Int) : Str := tupleText [k.shown, Str.ofString (toString n)]
theorem W_reprPair {C : Cst} {c : Fc} {n : Nat} {m : Mp} {H : HL} (O : Ok C c (n + 1)) {r : Addr} {x y : Value} {tx ty : Str} {Q : Value → Mp → HL → Prop} (hr : (r, tupOf [x, y]) ∈ H)
    (hxy : ∀ g h, Led g c h H → ∃ as, r ∉ as ∧ ReprK prg C.w as h 2 x tx ∧ ReprK prg C.w as h 2 y ty) (hz : (tupleText [tx, ty]).length ≤ 1000) (h : ∀ t, Q (.str (tupleText [tx, ty]) t) m H) : W C c m H (call (.builtin "repr") [.ref r]) Q := fun g hh tk T F N => by
  obtain ⟨as, hn, hx, hy⟩ := hxy g hh N
  have hu : c.un + 10 < cLine := by have := O.hu; omega
  refine call_repr_slot (T := "tuple") (by show c.un + 1 < cLine; omega) ⟨_, N.get hr, rfl⟩ PySem.F.slot_tuple_repr ?_
  refine call_tuple_reprK (d := 2) (items := [x, y].toArray) (as := as) (g := []) (ts := [tx, ty]) (N.get hr) rfl rfl hn (.cons hx (.cons hy .nil)) rfl (fun b _ => Clear.nil b) (by show c.un + 1 + (2 + 1) < cLine; omega) (fun b o e => e) (fun h' u tk' hk => ?_) (by simp only [sizeLine_eq]; omega)
  exact ⟨_, _, rfl, Po.in T (F.keeps hk) ⟨fun p hp => ⟨hk _ _ (N.N p hp).1, (N.N p hp).2⟩, N.nd⟩ (h u)⟩
theorem fin9 {P : Int → Prop} (h : ∀ j : Fin 9, P ((j.val : Nat) : Int)) {n : Int} (h0 : 0 ≤ n) (h1 : n < 9) : P n := by
  have := h ⟨n.toNat, by omega⟩
  rwa [show (((⟨n.toNat, by omega⟩ : Fin 9).val : Nat) : Int) = n from Int.toNat_of_nonneg h0] at this
theorem row_len (k : Ky) {n : Int} (h0 : 0 ≤ n) (h1 : n < 9) : (rowShown k n).length ≤ 1000 :=
  fin9 (P := fun n => (rowShown k n).length ≤ 1000) (by cases k <;> decide +kernel) h0 h1
theorem row_ne (k k' : Ky) {n : Int} (h0 : 0 ≤ n) (h1 : n < 9) : (rowShown k n == rowShown k' n) = decide (k = k') :=
  fin9 (P := fun n => (rowShown k n == rowShown k' n) = decide (k = k')) (by cases k <;> cases k' <;> decide +kernel) h0 h1
theorem W_reprRow {C : Cst} {c : Fc} {n : Nat} {m : Mp} {H : HL} (O : Ok C c (n + 1)) {r : Addr} {k : Ky} {kv : Value} {x : Int} {t : Tok} {Q : Value → Mp → HL → Prop} (hr : (r, tupOf [kv, .int x t]) ∈ H) (hk : KeyV k kv H) (h0 : 0 ≤ x) (h1 : x < 9) (h : ∀ t, Q (.str (rowShown k x) t) m H) : W C c m H (call (.builtin "repr") [.ref r]) Q :=
  W_reprPair O hr (fun g hh N => by
    obtain ⟨as, ha, hR⟩ := hk.repr N
    exact ⟨as, fun hm => by
      obtain ⟨x', y', hb, hy⟩ := ha r hm
      exact pair_ne N hr hb (fun z => hy _ _ z.symm) rfl, hR, .of_is (reprIs_int (by omega)) _ _ _⟩) (row_len k h0 h1) h
theorem W_reprKey {C : Cst} {c : Fc} {n : Nat} {m : Mp} {H : HL} (O : Ok C c (n + 1)) {k : Ky} {v : Value} {Q : Value → Mp → HL → Prop} (hk : KeyV k v H) (h : ∀ t, Q (.str k.shown t) m H) : W C c m H (call (.builtin "repr") [v]) Q := by
  cases k with
  | i0 => obtain ⟨t, rfl⟩ := hk; exact fun _ _ tk T F N => P.repr_of_int (by decide) (Po.in (tk := tk + 1) T F N (h _))
  | i1 => obtain ⟨t, rfl⟩ := hk; exact fun _ _ tk T F N => P.repr_of_int (by decide) (Po.in (tk := tk + 1) T F N (h _))
  | i3 => obtain ⟨t, rfl⟩ := hk; exact fun _ _ tk T F N => P.repr_of_int (by decide) (Po.in (tk := tk + 1) T F N (h _))
  | tru => obtain rfl : v = .bool true := hk; exact fun _ _ tk T F N => P.repr_of_bool (Po.in (tk := tk + 1) T F N (h _))
  | ba => obtain ⟨t, rfl⟩ := hk; exact fun g hh tk T F N => call_repr_gives (s := C.sh hh tk) (typeIs_bytes _ _ _) Bk.slot_bytes_repr Bk.entry_bytes_repr (Bk.args_bytes_repr_1 _) (Bk.gives_repr_ba t) (Po.in (tk := tk + 1) T F N (h _)) rfl (by exact Nat.le_of_ble_eq_true rfl)
  | be => obtain ⟨t, rfl⟩ := hk; exact fun g hh tk T F N => call_repr_gives (s := C.sh hh tk) (typeIs_bytes _ _ _) Bk.slot_bytes_repr Bk.entry_bytes_repr (Bk.args_bytes_repr_1 _) (Bk.gives_repr_be t) (Po.in (tk := tk + 1) T F N (h _)) rfl (by exact Nat.le_of_ble_eq_true rfl)
  | bn => obtain ⟨t, rfl⟩ := hk; exact fun g hh tk T F N => call_repr_gives (s := C.sh hh tk) (typeIs_bytes _ _ _) Bk.slot_bytes_repr Bk.entry_bytes_repr (Bk.args_bytes_repr_1 _) (Bk.gives_repr_bn t) (Po.in (tk := tk + 1) T F N (h _)) rfl (by exact Nat.le_of_ble_eq_true rfl)
  | st =>
    obtain ⟨a, b, t1, t2, t3, rfl, h1, h2⟩ : StK H v := hk
    rw [← st_shown] at h
    refine W_reprPair O h1 (fun g hh N => ⟨[b], ?_, .of_is (ReprIs.str (Str.ofString "struct") t1 struct_len) _ _ _, ?_⟩) (by exact Nat.le_of_ble_eq_true (by kernel_rfl)) h
    · have hne : a ≠ b := pair_ne N h1 h2 nofun
      simpa using hne
    · exact (repr_pair (as := []) (d := 1) N h2 nofun (.of_is (reprIs_int (n := 1) (by decide)) _ _ _) (.of_is (Bk.reprIs_bytes (Bk.gives_repr_ba t3) (by exact Nat.le_of_ble_eq_true rfl)) _ _ _))
noncomputable def tagP : Pv → Str
  | .int _ => "int"
  | .tru => "bool"
  | .by _ => "text"
  | .st => "struct"
theorem tag_pv : ∀ k : Ky, tagP k.pv = k.tag := by intro k; cases k <;> rfl
theorem W_is_bool_none {C : Cst} {c : Fc} {m : Mp} {H : HL} {b : Bool} {Q : Value → Mp → HL → Prop} (h : Q (.bool false) m H) : W C c m H (compareOp .Is (.bool b) .none) Q := fun _ hh tk T F N =>
  wpAny_bind (m := isSame (.bool b) .none) (wpAny_pure (wpAny_pure (Po.in T F N h)))
theorem W_is_bytes_none {C : Cst} {c : Fc} {m : Mp} {H : HL} {b : Array UInt8} {t : Tok} {Q : Value → Mp → HL → Prop} (h : Q (.bool false) m H) : W C c m H (compareOp .Is (.bytes b t) .none) Q := fun _ hh tk T F N =>
  wpAny_bind (m := isSame (.bytes b t) .none) (wpAny_pure (wpAny_pure (Po.in T F N h)))
theorem W_isinstT {C : Cst} {c : Fc} {m : Mp} {H : HL} {n : Nat} {a : Addr} {vs : List Value} {cv : Value} {b : Bool} {Q : Value → Mp → HL → Prop} (O : Ok C c n) (hm : (a, tupOf vs) ∈ H) (e : kitOne (Mine.kk C.w.params) (.type "tuple") cv = some b)
    (h : Q (.bool b) m H) : W C c m H (call (.builtin "isinstance") [.ref a, cv]) Q :=
  W_isinst O (kitx_tuple (K := Mine.kk C.w.params)) (fun _ _ N => ⟨_, N.get hm, rfl⟩) e (fun q => by cases q) h
theorem sp_valueTag {C : Cst} {c : Fc} {n : Nat} {m : Mp} {H : HL} (O : Ok C c (n + 2)) {p : Pv} {v : Value} {Q : Value → Mp → HL → Prop} (hv : PvG (StK H) p v) (h : ∀ t, Q (.str (tagP p) t) m H) :
    W C c m H (call (.ref 89) [v]) Q := by
  refine' W_def (n := n + 1) (binds := [("value", v)]) O ?ho ?hcd ?hb ?hl ?_ ?c1 ?c2 ?c3 ?c4
  ((try case hm => k_is); (try case hi => k_is); (try case hf => k_is); (case ho => k_is); (case hcd => k_is); (case hb => first | rfl | exact fun _ => rfl); (try case hl => first | rfl | exact fun _ => rfl); (try case hkd => rfl); (try case hnd => decide); (try case eL => rfl); (try case eC => rfl); (case c1 => rfl); (case c2 => rfl); (case c3 => rfl); (try case c4 => decide); intros; (try simp only [mOf, List.foldl]); (first | (refine W.letE ?_; intro _ _ _) | (refine WX.letE ?_; intro _ _ _ _)))
  cases p with
  | int k =>
    obtain ⟨t, rfl⟩ := hv
    (refine W_consQ ?_; intro _ _ _; refine W_If ?_; intro _; refine W_isTrue_Compare ?_; intro _; refine W_local ?_; refine W_none ?_; refine W_is_int_none ?_; refine W_truthy_bool ?_; refine w_condf ?_; refine W_nil ?_; refine W_consQ ?_; intro _ _ _; refine W_If ?_; intro _; refine W_isTrue ?_; intro _; refine W_CallName ?_; intro _; refine W_bltn ?_; refine W_callB0 ?_; intro _; refine W_itemsL ?_; intro _; refine W_items_cons ?_; intro _; refine W_bltn ?_; refine W_items_nil ?_; (first | refine' W_isinst ?O (kitx_int (K := Mine.kk _)) (fun _ _ _ => trivial) ?e ?x ?_; (case O => assumption); (case e => kit_is); (case x => intro q; cases q) | refine' W_isinst ?O (kitx_bool (K := Mine.kk _)) (fun _ _ _ => trivial) ?e ?x ?_; (case O => assumption); (case e => kit_is); (case x => intro q; cases q) | refine' W_isinst ?O (kitx_bytes (K := Mine.kk _)) (fun _ _ _ => trivial) ?e ?x ?_; (case O => assumption); (case e => kit_is); (case x => intro q; cases q)); refine W_truthy_bool ?_; refine w_condf ?_; refine W_nil ?_; refine W_consQ ?_; intro _ _ _; refine W_If ?_; intro _; refine W_isTrue ?_; intro _; refine W_CallName ?_; intro _; refine W_bltn ?_; refine W_callB0 ?_; intro _; refine W_itemsL ?_; intro _; refine W_items_cons ?_; intro _; refine W_bltn ?_; refine W_items_nil ?_; (first | refine' W_isinst ?O (kitx_int (K := Mine.kk _)) (fun _ _ _ => trivial) ?e ?x ?_; (case O => assumption); (case e => kit_is); (case x => intro q; cases q) | refine' W_isinst ?O (kitx_bool (K := Mine.kk _)) (fun _ _ _ => trivial) ?e ?x ?_; (case O => assumption); (case e => kit_is); (case x => intro q; cases q) | refine' W_isinst ?O (kitx_bytes (K := Mine.kk _)) (fun _ _ _ => trivial) ?e ?x ?_; (case O => assumption); (case e => kit_is); (case x => intro q; cases q)); refine W_truthy_bool ?_; refine w_condt ?_; refine W_consQ ?_; intro _ _ _; refine W_Return ?_; refine W_str ?_; intro _)
    exact Dr.id (h _)
  | tru =>
    obtain rfl : v = .bool true := hv
    (refine W_consQ ?_; intro _ _ _; refine W_If ?_; intro _; refine W_isTrue_Compare ?_; intro _; refine W_local ?_; refine W_none ?_; refine W_is_bool_none ?_; refine W_truthy_bool ?_; refine w_condf ?_; refine W_nil ?_; refine W_consQ ?_; intro _ _ _; refine W_If ?_; intro _; refine W_isTrue ?_; intro _; refine W_CallName ?_; intro _; refine W_bltn ?_; refine W_callB0 ?_; intro _; refine W_itemsL ?_; intro _; refine W_items_cons ?_; intro _; refine W_bltn ?_; refine W_items_nil ?_; (first | refine' W_isinst ?O (kitx_int (K := Mine.kk _)) (fun _ _ _ => trivial) ?e ?x ?_; (case O => assumption); (case e => kit_is); (case x => intro q; cases q) | refine' W_isinst ?O (kitx_bool (K := Mine.kk _)) (fun _ _ _ => trivial) ?e ?x ?_; (case O => assumption); (case e => kit_is); (case x => intro q; cases q) | refine' W_isinst ?O (kitx_bytes (K := Mine.kk _)) (fun _ _ _ => trivial) ?e ?x ?_; (case O => assumption); (case e => kit_is); (case x => intro q; cases q)); refine W_truthy_bool ?_; refine w_condt ?_; refine W_consQ ?_; intro _ _ _; refine W_Return ?_; refine W_str ?_; intro _)
    exact Dr.id (h _)
  | «by» x =>
    obtain ⟨t, rfl⟩ := hv
    (refine W_consQ ?_; intro _ _ _; refine W_If ?_; intro _; refine W_isTrue_Compare ?_; intro _; refine W_local ?_; refine W_none ?_; refine W_is_bytes_none ?_; refine W_truthy_bool ?_; refine w_condf ?_; refine W_nil ?_; refine W_consQ ?_; intro _ _ _; refine W_If ?_; intro _; refine W_isTrue ?_; intro _; refine W_CallName ?_; intro _; refine W_bltn ?_; refine W_callB0 ?_; intro _; refine W_itemsL ?_; intro _; refine W_items_cons ?_; intro _; refine W_bltn ?_; refine W_items_nil ?_; (first | refine' W_isinst ?O (kitx_int (K := Mine.kk _)) (fun _ _ _ => trivial) ?e ?x ?_; (case O => assumption); (case e => kit_is); (case x => intro q; cases q) | refine' W_isinst ?O (kitx_bool (K := Mine.kk _)) (fun _ _ _ => trivial) ?e ?x ?_; (case O => assumption); (case e => kit_is); (case x => intro q; cases q) | refine' W_isinst ?O (kitx_bytes (K := Mine.kk _)) (fun _ _ _ => trivial) ?e ?x ?_; (case O => assumption); (case e => kit_is); (case x => intro q; cases q)); refine W_truthy_bool ?_; refine w_condf ?_; refine W_nil ?_; refine W_consQ ?_; intro _ _ _; refine W_If ?_; intro _; refine W_isTrue ?_; intro _; refine W_CallName ?_; intro _; refine W_bltn ?_; refine W_callB0 ?_; intro _; refine W_itemsL ?_; intro _; refine W_items_cons ?_; intro _; refine W_bltn ?_; refine W_items_nil ?_; (first | refine' W_isinst ?O (kitx_int (K := Mine.kk _)) (fun _ _ _ => trivial) ?e ?x ?_; (case O => assumption); (case e => kit_is); (case x => intro q; cases q) | refine' W_isinst ?O (kitx_bool (K := Mine.kk _)) (fun _ _ _ => trivial) ?e ?x ?_; (case O => assumption); (case e => kit_is); (case x => intro q; cases q) | refine' W_isinst ?O (kitx_bytes (K := Mine.kk _)) (fun _ _ _ => trivial) ?e ?x ?_; (case O => assumption); (case e => kit_is); (case x => intro q; cases q)); refine W_truthy_bool ?_; refine w_condf ?_; refine W_nil ?_; refine W_consQ ?_; intro _ _ _; refine W_Return ?_; refine W_IfExp ?_; intro _; refine W_isTrue ?_; intro _; refine W_CallName ?_; intro _; refine W_bltn ?_; refine W_callB0 ?_; intro _; refine W_itemsL ?_; intro _; refine W_items_cons ?_; intro _; refine W_bltn ?_; refine W_items_nil ?_; (first | refine' W_isinst ?O (kitx_int (K := Mine.kk _)) (fun _ _ _ => trivial) ?e ?x ?_; (case O => assumption); (case e => kit_is); (case x => intro q; cases q) | refine' W_isinst ?O (kitx_bool (K := Mine.kk _)) (fun _ _ _ => trivial) ?e ?x ?_; (case O => assumption); (case e => kit_is); (case x => intro q; cases q) | refine' W_isinst ?O (kitx_bytes (K := Mine.kk _)) (fun _ _ _ => trivial) ?e ?x ?_; (case O => assumption); (case e => kit_is); (case x => intro q; cases q)); refine W_truthy_bool ?_; refine w_condt ?_; refine W_str ?_; intro _)
    exact Dr.id (h _)
  | st =>
    obtain ⟨a, b, t1, t2, t3, rfl, h1, h2⟩ := hv
    (refine W_consQ ?_; intro _ _ _; refine W_If ?_; intro _; refine W_isNoneR ?_; refine w_condf ?_; refine W_nil ?_; refine W_consQ ?_; intro _ _ _; refine W_If ?_; intro _; refine W_isTrue ?_; intro _; refine W_CallName ?_; intro _; refine W_bltn ?_; refine W_callB0 ?_; intro _; refine W_itemsL ?_; intro _; refine W_items_cons ?_; intro _; refine W_bltn ?_; refine W_items_nil ?_; refine W_isinstT (by assumption) (by k_extra "mm") (by kit_is) ?_; refine W_truthy_bool ?_; refine w_condf ?_; refine W_nil ?_; refine W_consQ ?_; intro _ _ _; refine W_If ?_; intro _; refine W_isTrue ?_; intro _; refine W_CallName ?_; intro _; refine W_bltn ?_; refine W_callB0 ?_; intro _; refine W_itemsL ?_; intro _; refine W_items_cons ?_; intro _; refine W_bltn ?_; refine W_items_nil ?_; refine W_isinstT (by assumption) (by k_extra "mm") (by kit_is) ?_; refine W_truthy_bool ?_; refine w_condf ?_; refine W_nil ?_; refine W_consQ ?_; intro _ _ _; refine W_Return ?_; refine W_IfExp ?_; intro _; refine W_isTrue ?_; intro _; refine W_CallName ?_; intro _; refine W_bltn ?_; refine W_callB0 ?_; intro _; refine W_itemsL ?_; intro _; refine W_items_cons ?_; intro _; refine W_bltn ?_; refine W_items_nil ?_; refine W_isinstT (by assumption) (by k_extra "mm") (by kit_is) ?_; refine W_truthy_bool ?_; refine w_condf ?_; refine W_tupL ?_)
    exact Dr.id (h _)
theorem strs_2 {a b : Str} {t u : Tok} : StrsAre [.str a t, .str b u] [a, b] := .cons _ _ (.cons _ _ .nil)
theorem strs_3 {a b d : Str} {t u v : Tok} : StrsAre [.str a t, .str b u, .str d v] [a, b, d] := .cons _ _ (.cons _ _ (.cons _ _ .nil))
theorem sp_valueKeyS {C : Cst} {c : Fc} {n : Nat} {m : Mp} {H : HL} (O : Ok C c (n + 3)) {p : Pv} {v mc : Value} {Q : Value → Mp → HL → Prop} (hp : p ≠ .st) (hv : PvG (StK H) p v) (h : ∀ a t, Q (.ref a) m ((a, tupOf [.str (tagP p) t, v]) :: H)) :
    W C c m H (call (.ref 94) [v, mc]) Q := by
  refine' W_defC (n := n + 2) (binds := [("value", v), ("may_compare", mc)]) (upd emp "value" v) (upd emp "may_compare" mc) O ?ho ?hcd ?hb ?hkd ?hnd ?eL ?eC ?_ ?c1 ?c2 ?c3
  ((try case hm => k_is); (try case hi => k_is); (try case hf => k_is); (case ho => k_is); (case hcd => k_is); (case hb => first | rfl | exact fun _ => rfl); (try case hl => first | rfl | exact fun _ => rfl); (try case hkd => rfl); (try case hnd => decide); (try case eL => rfl); (try case eC => rfl); (case c1 => rfl); (case c2 => rfl); (case c3 => rfl); (try case c4 => decide); intros; (try simp only [mOf, List.foldl]); (first | (refine W.letE ?_; intro _ _ _) | (refine WX.letE ?_; intro _ _ _ _)))
  rename_i L cells O1 Y cF QnF QrF
  obtain ⟨o1, rfl, d1⟩ := CellsAre.one Y
  have d1 : o1.data = .cell (some mc) := d1
  (refine W_consQ ?_; intro _ _ _; refine W_assignN ?_; intro _; refine W_callG ?_; intro _; refine W_itemsL ?_; intro _; refine W_items_nil ?_)
  refine sp_valueTag (n := n) (by assumption) (hv.mono fun _ x => x.sub (.of fun p hp => by k_extra "mm")) fun t => ?_
  (refine W_consQ ?_; intro _ _ _; refine W_If ?_; intro _; refine W_isTrue_Compare ?_; intro _; refine W_local ?_; refine W_glob ?_)
  refine W_inTupK (by assumption) (by k_is) strs_3 ?_
  (refine W_truthy_bool ?_)
  refine cond_f (by cases p <;> rfl) ?_
  (refine W_nil ?_; refine W_consQ ?_; intro _ _ _; refine W_If ?_; intro _; refine W_isTrue_Compare ?_; intro _; refine W_local ?_; refine W_str ?_; intro _; refine W_eqStr ?_; refine W_truthy_bool ?_)
  refine cond_f (by cases p <;> rfl) ?_
  (refine W_nil ?_; refine W_consQ ?_; intro _ _ _; refine W_If ?_; intro _; refine W_isTrue_Compare ?_; intro _; refine W_local ?_; refine W_Tuple ?_; intro _; refine W_items_cons ?_; intro _; refine W_str ?_; intro _; refine W_items_cons ?_; intro _; refine W_str ?_; intro _; refine W_items_nil ?_; refine W_newTuple ?_; intro _)
  refine W_inTup (.head _) strs_2 ?_
  (refine W_truthy_bool ?_)
  refine cond_f (by cases p <;> first | rfl | exact absurd rfl hp) ?_
  (refine W_nil ?_; refine W_consQ ?_; intro _ _ _; refine W_Return ?_; refine W_Tuple ?_; intro _; refine W_itemsL ?_; intro _; refine W_itemsL ?_; intro _; refine W_items_nil ?_; refine W_newTuple ?_; intro _)
  exact ⟨(_, _) :: H, by k_extra "le", h _ _⟩
noncomputable def StParts : Nat → List Value → HL → Prop
  | 0, ys, _ => ys = []
  | 1, ys, X => ∃ c1 t1 t2, ys = [.ref c1] ∧ (c1, tupOf [.str "int" t1, .int 1 t2]) ∈ X
  | _, ys, X => ∃ c1 c2 t1 t2 t3 t4, ys = [.ref c1, .ref c2] ∧ (c1, tupOf [.str "int" t1, .int 1 t2]) ∈ X ∧ (c2, tupOf [.str "text" t3, .bytes [97].toArray t4]) ∈ X
theorem sp_valueKey {C : Cst} {c : Fc} {n : Nat} {m : Mp} {H : HL} (O : Ok C c (n + 5)) {k : Ky} {v mc : Value} {Q : Value → Mp → HL → Prop} (hv : KeyV k v H) (h : ∀ v' X, MarkV k v' X → Q v' m (X ++ H)) :
    W C c m H (call (.ref 94) [v, mc]) Q := by
  by_cases hp : k.pv = .st
  · have hv' := hv
    unfold KeyV at hv'
    have hk : k = .st := by cases k <;> first | rfl | exact absurd hp nofun
    subst hk
    obtain ⟨a, b, t1, t2, t3, rfl, h1, h2⟩ : StK H v := hv'
    refine' W_defC (n := n + 4) (binds := [("value", .ref a), ("may_compare", mc)]) (upd emp "value" (.ref a)) (upd emp "may_compare" mc) O ?ho ?hcd ?hb ?hkd ?hnd ?eL ?eC ?_ ?c1 ?c2 ?c3
    ((try case hm => k_is); (try case hi => k_is); (try case hf => k_is); (case ho => k_is); (case hcd => k_is); (case hb => first | rfl | exact fun _ => rfl); (try case hl => first | rfl | exact fun _ => rfl); (try case hkd => rfl); (try case hnd => decide); (try case eL => rfl); (try case eC => rfl); (case c1 => rfl); (case c2 => rfl); (case c3 => rfl); (try case c4 => decide); intros; (try simp only [mOf, List.foldl]); (first | (refine W.letE ?_; intro _ _ _) | (refine WX.letE ?_; intro _ _ _ _)))
    rename_i L cells O1 Y cF QnF QrF
    obtain ⟨o1, rfl, d1⟩ := CellsAre.one Y
    have d1 : o1.data = .cell (some mc) := d1
    (refine W_consQ ?_; intro _ _ _; refine W_assignN ?_; intro _; refine W_callG ?_; intro _; refine W_itemsL ?_; intro _; refine W_items_nil ?_)
    refine sp_valueTag (p := .st) (n := n + 2) (by assumption) ⟨a, b, t1, t2, t3, rfl, by k_extra "mm", by k_extra "mm"⟩ fun t => ?_
    (refine W_consQ ?_; intro _ _ _; refine W_If ?_; intro _; refine W_isTrue_Compare ?_; intro _; refine W_local ?_; refine W_glob ?_)
    refine W_inTupK (by assumption) (by k_is) strs_3 ?_
    (refine W_truthy_bool ?_; refine w_condf ?_; refine W_nil ?_; refine W_consQ ?_; intro _ _ _; refine W_If ?_; intro _; refine W_isTrue_Compare ?_; intro _; refine W_local ?_; refine W_str ?_; intro _; refine W_eqStr ?_; refine W_truthy_bool ?_; refine w_condf ?_; refine W_nil ?_; refine W_consQ ?_; intro _ _ _; refine W_If ?_; intro _; refine W_isTrue_Compare ?_; intro _; refine W_local ?_; refine W_Tuple ?_; intro _; refine W_items_cons ?_; intro _; refine W_str ?_; intro _; refine W_items_cons ?_; intro _; refine W_str ?_; intro _; refine W_items_nil ?_; refine W_newTuple ?_; intro _)
    refine W_inTup (.head _) strs_2 ?_
    (refine W_truthy_bool ?_; refine w_condt ?_; refine W_consQ ?_; intro _ _ _; refine W_Return ?_; refine W_Tuple ?_; intro _; refine W_itemsL ?_; intro _; refine W_items_cons ?_; intro _; refine W_CallName ?_; intro _; refine W_bltn ?_; refine W_callT ?_; intro _; refine W_items_cons ?_; intro _)
    refine' W_ListComp ?h1 ?h2 ?h3 ?h4 ?h5 ?_
    case h1 => rfl
    case h2 => decide
    case h3 => rfl
    case h4 => decide
    case h5 => rfl
    (refine W_tupL ?_)
    refine W_iter_tuple (vs := [.int 1 t2, .bytes [97].toArray t3]) (by k_extra "mm") fun it X hX => ?_
    refine ⟨2, _, _, _, it, X, _, fun i ys m' H' => m' = upd (upd emp "value" (.ref a)) "tag" (.str (tagP Pv.st) t) ∧ ∃ X1, H' = X1 ++ ((L + 1, o1) :: H) ∧ StParts i ys X1, ⟨rfl, It_tuple (vs := [.int 1 t2, .bytes [97].toArray t3]) rfl, ?le, hX, by k_extra "mm", rfl, [], rfl, rfl⟩, Self_tuple, by exact Nat.le_of_ble_eq_true rfl, fun h => .tail _ (.tail _ h), ?_, ?_⟩
    case le => k_extra "le"
    · rintro i v ys m' H' X' D oC mc2 A' e hi hyl ⟨hvi, hX'⟩ hneed ⟨rfl, X1, rfl, hys⟩ hC hm
      refine W_tests_nil ⟨fun _ => ?_, fun q => nomatch q⟩
      match i, hi, hvi with
      | 0, hi, hvi =>
        obtain rfl := Option.some.inj hvi
        obtain rfl : ys = [] := hys
        (refine W_CallName ?_; intro _; refine W_cGlob ?_; refine W_callK ?_; intro _; refine W_items_cons ?_; intro _; refine W_cLocal ?_; refine W_items_cons ?_; intro _; refine W_cCell ?_; refine W_items_nil ?_)
        refine sp_valueKeyS (n := n + 1) (p := .int 1) (by assumption) nofun ⟨_, rfl⟩ fun a1 t4 => ?_
        refine ⟨X', oC, mc2, ((a1, _) :: X1) ++ ((L + 1, o1) :: H), ?_, hX', hC, ?_, rfl, _, rfl, a1, t4, t2, rfl, .head _⟩
        · k_extra "le"
        · k_extra "mm"
      | 1, hi, hvi =>
        obtain rfl := Option.some.inj hvi
        obtain ⟨c1, t5, t6, rfl, hc1⟩ : ∃ c1 t1 t2, ys = [.ref c1] ∧ (c1, tupOf [.str "int" t1, .int 1 t2]) ∈ X1 := hys
        (refine W_CallName ?_; intro _; refine W_cGlob ?_; refine W_callK ?_; intro _; refine W_items_cons ?_; intro _; refine W_cLocal ?_; refine W_items_cons ?_; intro _; refine W_cCell ?_; refine W_items_nil ?_)
        refine sp_valueKeyS (n := n + 1) (p := .by [97]) (by assumption) nofun ⟨_, rfl⟩ fun a1 t4 => ?_
        refine ⟨X', oC, mc2, ((a1, _) :: X1) ++ ((L + 1, o1) :: H), ?_, hX', hC, ?_, rfl, _, rfl, c1, a1, t5, t6, t4, t3, rfl, .tail _ hc1, .head _⟩
        · k_extra "le"
        · k_extra "mm"
    · rintro ys m' H' A' e hyl hneed ⟨rfl, X1, rfl, hys⟩
      obtain ⟨c1, c2, t5, t6, t7, t8, rfl, hc1, hc2⟩ := hys
      (refine W_items_nil ?_)
      refine W_tupleOf (by k_extra "mm") (by exact Nat.le_of_ble_eq_true rfl) fun b2 => ?_
      (refine W_items_nil ?_; refine W_newTuple ?_; intro _)
      refine ⟨_, ?_, h (.ref _) ((_, tupOf [.str (tagP .st) t, .ref b2]) :: (b2, tupOf [.ref c1, .ref c2]) :: X1) ⟨_, _, _, rfl, .head _, b2, c1, c2, t5, t6, t7, t8, rfl, .tail _ (.head _), .tail _ (.tail _ hc1), .tail _ (.tail _ hc2)⟩⟩
      show Le ((_, _) :: (b2, _) :: (X1 ++ H)) _
      k_extra "le"
  · have hpv : tagP k.pv = k.tag := tag_pv k
    refine sp_valueKeyS (n := n + 2) O hp hv fun a t => ?_
    rw [hpv]
    exact h (.ref a) [_] ⟨a, t, v, rfl, .head _, by
      cases k <;> first | exact hv | exact absurd rfl hp⟩
theorem putL_len_some (name : Str) (hsh : Int) (t : Tok) (v : Value) : ∀ es : List DictEntry, (es.find? (·.key.isStr name)).isSome = true → (putL name hsh (.str name t) v es).length = es.length
  | [], h => by simp at h
  | e :: r, h => by
    unfold putL
    by_cases hk : e.key.isStr name = true
    · rw [if_pos hk]; rfl
    · rw [if_neg hk]
      simp only [List.find?_cons, Bool.eq_false_iff.mpr hk] at h
      simp only [List.length_cons, putL_len_some name hsh t v r h]
theorem W_setAttrK {C : Cst} {c : Fc} {n : Nat} {m : Mp} {H : HL} {x Ca dx : Addr} {o : Obj} {f : Mp} {k : Nat} {name : Str} {v v₀ : Value} {g : Obj → HL} {Q : Unit → Mp → HL → Prop} (O : Ok C c n) (P : Plain (KK C) Ca) (hm : (x, instObj Ca dx) ∈ H) (U : ∀ o', At dx o o' H (g o')) (hf : Flds f k o) (hv : f name = some v₀)
    (ha : takerIn (Mine.kk C.w.params) Ca name = some none) (hk : k ≤ 1000) (h : ∀ o', Flds (upd f name v) k o' → Q () m (g o')) : W C c m H (setAttr (.ref x) name v) Q := fun g hh tk T F N => by
  obtain ⟨es, n, rfl, hl, hr, hf⟩ := hf
  have hdm := (U emptyDict).mem
  have hsm : (es.find? (·.key.isStr name)).isSome = true := by
    have := hf name
    rw [hv] at this
    cases q : es.find? (·.key.isStr name) with
    | none => rw [q] at this; cases this
    | some _ => rfl
  have hlen := putL_len_some name (PyData.keyHash C.w.params name) (tk + 1) v es hsm
  have fl : Flds (upd f name v) k (dictOf (putL name (PyData.keyHash C.w.params name) (.str name (tk + 1)) v es) (putN name es n)) :=
    ⟨_, _, rfl, by rw [hlen]; exact hl, ref_putL _ _ _ _ _ hr, fun x => by rw [find_putL, hf]; rfl⟩
  have U' := U (dictOf (putL name (PyData.keyHash C.w.params name) (.str name (tk + 1)) v es) (putN name es n))
  have nd := N.nd
  obtain ⟨l, r, e1, e2⟩ := U'.split
  have nd' := nd
  rw [e1] at nd'
  simp only [List.map_append, List.map_cons] at nd'
  have h1 : ∀ p ∈ l, p.1 ≠ dx := fun p hp => (List.nodup_append.mp nd').2.2 p.1 (List.mem_map_of_mem hp) dx (.head _)
  have h2 : ∀ p ∈ r, p.1 ≠ dx := fun p hp q => (List.nodup_cons.mp (List.nodup_append.mp nd').2.1).1 (q ▸ List.mem_map_of_mem hp)
  have toUpd : ∀ l : HL, (∀ p ∈ l, p.1 ≠ dx) → Upd dx (dictOf es n) (dictOf (putL name (PyData.keyHash C.w.params name) (.str name (tk + 1)) v es) (putN name es n)) (l ++ (dx, dictOf es n) :: r) (l ++ (dx, dictOf (putL name (PyData.keyHash C.w.params name) (.str name (tk + 1)) v es) (putN name es n)) :: r) := by
    intro l
    induction l with
    | nil => intro _; exact Upd.head h2
    | cons p l ih => intro hl; exact Upd.tail (hl p (.head _)) (ih fun q hq => hl q (.tail _ hq))
  refine set_dict (es' := putL name (PyData.keyHash C.w.params name) (.str name (tk + 1)) v es) (n' := putN name es n) F (O.K T) N.N (InstAt.of_news N.N hm hdm) rfl P.hs P.hp ha P.hh (by rw [Flds.get hr (hf name)]; rfl) rfl (e1 ▸ e2 ▸ toUpd l h1) (by rw [hlen]; omega) fun h' F' N' => ?_
  exact Po.in (tk := tk + 2) T F' ⟨N', by rw [U'.keys]; exact nd⟩ (h _ fl)
structure Ent where
  a : Addr
  no : Nat
  k : Ky
  v : Int
inductive EntsAt (F : HL) : List Ent → HL → Prop
  | nil : EntsAt F [] []
  | cons {e es X mk kv tn tv n} : MarkV e.k mk F → KeyV e.k kv F → EntsAt F es X → EntsAt F (e :: es) ((e.a, lstOf [.int e.no tn, mk, kv, .int e.v tv] n) :: X)
theorem EntsAt.at {F : HL} {es : List Ent} {X : HL} (h : EntsAt F es X) : ∀ {i : Nat} {e : Ent}, es[i]? = some e →
    ∃ mk kv tn tv n, (e.a, lstOf [.int e.no tn, mk, kv, .int e.v tv] n) ∈ X ∧ MarkV e.k mk F ∧ KeyV e.k kv F ∧ ∀ (w : Int) tw n', ∃ X', At e.a (lstOf [.int e.no tn, mk, kv, .int e.v tv] n) (lstOf [.int e.no tn, mk, kv, .int w tw] n') X X' ∧ EntsAt F (es.set i ⟨e.a, e.no, e.k, w⟩) X' := by
  induction h with
  | nil => intro i e h; simp at h
  | @cons e es X mk kv tn tv n h1 h2 h3 ih =>
    intro i e' hi
    cases i with
    | zero =>
      simp at hi; subst hi
      exact ⟨mk, kv, tn, tv, n, .head _, h1, h2, fun w tw n' => ⟨_, .head, EntsAt.cons (e := ⟨e.a, e.no, e.k, w⟩) h1 h2 h3⟩⟩
    | succ i =>
      obtain ⟨mk', kv', tn', tv', n', q1, q2, q3, q4⟩ := ih (i := i) (e := e') (by simpa using hi)
      refine ⟨mk', kv', tn', tv', n', .tail _ q1, q2, q3, fun w tw nn => ?_⟩
      obtain ⟨X', u, r⟩ := q4 w tw nn
      exact ⟨_, .tail u, .cons h1 h2 r⟩
theorem EntsAt.sub {F F' : HL} (s : TSub F F') {es : List Ent} {X : HL} (h : EntsAt F es X) : EntsAt F' es X := by
  induction h with
  | nil => exact .nil
  | cons h1 h2 _ ih => exact .cons (h1.ts s) (h2.ts s) ih
theorem EntsAt.snoc {F : HL} {es : List Ent} {X : HL} (h : EntsAt F es X) {e : Ent} {mk kv : Value} {tn tv : Tok} {n : Nat} (h1 : MarkV e.k mk F) (h2 : KeyV e.k kv F) : EntsAt F (es ++ [e]) (X ++ [(e.a, lstOf [.int e.no tn, mk, kv, .int e.v tv] n)]) := by
  induction h with
  | nil => exact .cons h1 h2 .nil
  | cons a b _ ih => exact .cons a b ih
theorem EntsAt.filter {F : HL} (p : Ent → Bool) {es : List Ent} {X : HL} (h : EntsAt F es X) : ∃ X', EntsAt F (es.filter p) X' ∧ X'.Sublist X := by
  induction h with
  | nil => exact ⟨[], .nil, .slnil⟩
  | @cons e es X mk kv tn tv n h1 h2 _ ih =>
    obtain ⟨X', a, b⟩ := ih
    cases q : p e with
    | true => exact ⟨_, by rw [List.filter_cons_of_pos q]; exact .cons h1 h2 a, b.cons_cons _⟩
    | false => exact ⟨X', by rw [List.filter_cons_of_neg (by simp [q])]; exact a, b.cons _⟩
theorem EntsAt.nt {F : HL} {es : List Ent} {X H' : HL} (h : EntsAt F es X) : TSub X H' := by
  induction h with
  | nil => exact .nil
  | cons _ _ _ ih => exact .drop nt_lst ih
noncomputable abbrev mapF (el : Addr) (cm : Nat) (t : Tok) : Mp := upd (upd emp "entries" (.ref el)) "coming" (.int (cm : Int) t)
noncomputable abbrev refsE (es : List Ent) : List Value := es.map fun e => .ref e.a
inductive MpB (mp : Addr) (es : List Ent) (cm : Nat) (A F : HL) : Prop
  | mk (dm : Addr) (oM : Obj) (el : Addr) (e : Nat) (tn : Tok) (X : HL) (q0 : A = (mp, instObj 151 dm) :: (dm, oM) :: (el, lstOf (refsE es) e) :: X) (q1 : Flds (mapF el cm tn) 2 oM) (q2 : EntsAt F es X) : MpB mp es cm A F
theorem MpB.nt {mp : Addr} {es : List Ent} {cm : Nat} {A F H' : HL} (h : MpB mp es cm A F) : TSub A H' := by
  obtain ⟨dm, oM, el, e, tn, X, rfl, hf, hX⟩ := h
  refine .drop (nt_dat rfl nofun) (.drop ?_ (.drop nt_lst hX.nt))
  obtain ⟨es', n, rfl, -⟩ := hf
  exact nt_dat rfl nofun
theorem MpB.sub {mp : Addr} {es : List Ent} {cm : Nat} {A F F' : HL} (s : TSub F F') (h : MpB mp es cm A F) : MpB mp es cm A F' := by
  obtain ⟨dm, oM, el, e, tn, X, rfl, hf, hX⟩ := h
  exact ⟨dm, oM, el, e, tn, X, rfl, hf, hX.sub s⟩
theorem pl151 (C : Cst) : Plain (Mine.kk C.w.params) 151 := ⟨by k_is, by k_is, by k_is, by k_is, by k_is⟩
local macro_rules | `(tactic| k_extra "pl") => `(tactic| exact pl151 _)
theorem upd_set2 {f : Mp} {a b : Str} {x y : Value} (h : b ≠ a) : upd (upd (upd f a x) b y) b = upd (upd f a x) b := by
  funext v z
  unfold upd
  split <;> rfl
theorem upd_set1 {f : Mp} {a b : Str} {x y v : Value} (h : b ≠ a) : upd (upd (upd f a x) b y) a v = upd (upd f a v) b y := by
  funext z
  unfold upd
  by_cases h1 : z = a
  · subst h1
    simp [Ne.symm h]
  · simp [h1]
theorem sp_entryOf {C : Cst} {c : Fc} {n : Nat} {m : Mp} {H A F G : HL} (O : Ok C c (n + 2)) (hp : Pk A H F) {mp : Addr} {es : List Ent} {cm : Nat} {k : Ky} {mk : Value} {Q : Value → Mp → HL → Prop} (hM : MpB mp es cm A G) (hG : ∀ p ∈ G, p ∈ F) (hk : MarkV k mk F)
    (h1 : ∀ (i : Nat) e, es[i]? = some e → e.k = k → Q (.ref e.a) m (A ++ F)) (h2 : (∀ e ∈ es, e.k ≠ k) → Q .none m (A ++ F)) : W C c m H (call (.ref 136) [.ref mp, mk]) Q := by
  refine W.le hp.le ?_
  obtain ⟨dm, oM, el, e₀, tn, X, hA, hf, hX⟩ := id hM
  subst hA
  have hXF := hX.sub (.of hG)
  refine' W_def (n := n + 1) (binds := [("self", .ref mp), ("mark", mk)]) O ?ho ?hcd ?hb ?hl ?_ ?c1 ?c2 ?c3 ?c4
  ((try case hm => k_is); (try case hi => k_is); (try case hf => k_is); (case ho => k_is); (case hcd => k_is); (case hb => first | rfl | exact fun _ => rfl); (try case hl => first | rfl | exact fun _ => rfl); (try case hkd => rfl); (try case hnd => decide); (try case eL => rfl); (try case eC => rfl); (case c1 => rfl); (case c2 => rfl); (case c3 => rfl); (try case c4 => decide); intros; (try simp only [mOf, List.foldl]); (first | (refine W.letE ?_; intro _ _ _) | (refine WX.letE ?_; intro _ _ _ _)))
  refine W_cons (W_For ?_)
  (with_reducible refine W_attrL ?_)
  refine W_iter_list (vs := refsE es) (e := e₀) (by k_extra "mm") fun it X1 hX1 => ?_
  refine ⟨(refsE es).length, _, _, _, it, X1, _, fun i m' H' => m' "mark" = some mk ∧ (∀ j e, j < i → es[j]? = some e → e.k ≠ k) ∧ H' = ((mp, instObj 151 dm) :: (dm, oM) :: (el, lstOf (refsE es) e₀) :: X) ++ F,
    ⟨rfl, It_list (vs := refsE es) (e := e₀), .rfl, hX1, by k_extra "mm", by k_extra "lk", fun j e hj => absurd hj (Nat.not_lt_zero _), rfl⟩, ?_, ?_⟩
  · rintro i v m' H' X' hlt ⟨hxi, hX'⟩ hneed ⟨m1, hno, rfl⟩
    obtain ⟨e, he, rfl⟩ : ∃ e, es[i]? = some e ∧ Value.ref e.a = v := by simpa using hxi
    obtain ⟨mk', kv', tn', tv', n', q1, q2, q3, -⟩ := hXF.at he
    with_reducible refine W_ownedName ?_
    (with_reducible refine W_assignName ?_; with_reducible refine W_store ?_; with_reducible refine W_consQ ?_; intro _ _ _; with_reducible refine W_If ?_; intro _; with_reducible refine W_isTrue_Compare ?_; intro _; with_reducible refine W_Subscript ?_; intro _; with_reducible refine W_local ?_; with_reducible refine W_int ?_; intro _; with_reducible refine w_lstItem ?_; with_reducible refine W_local ?_)
    refine W_eqMark (n := n) (by assumption) (q2.sub fun p hp => by k_extra "mm") (hk.sub fun p hp => by k_extra "mm") ?_
    (with_reducible refine W_truthy_bool ?_)
    refine ⟨fun q => ?_, fun q => ?_⟩
    · (with_reducible refine W_consQ ?_; intro _ _ _; with_reducible refine W_Return ?_; with_reducible refine W_local ?_)
      exact ⟨_, by k_extra "le", h1 i e he (of_decide_eq_true q)⟩
    · (with_reducible refine W_nil ?_; with_reducible refine W_nil ?_)
      refine ⟨X', _, .rfl, hX', by k_extra "mm", by k_extra "lk", fun j e' hj hje => ?_, rfl⟩
      rcases Nat.lt_succ_iff_lt_or_eq.mp hj with z | z
      · exact hno j e' z hje
      · subst z
        rw [he] at hje
        exact Option.some.inj hje ▸ of_decide_eq_false q
  · rintro m' H' _ ⟨_, hno, rfl⟩
    (with_reducible refine W_consQ ?_; intro _ _ _; with_reducible refine W_Return ?_; with_reducible refine W_none ?_)
    exact Dr.id (h2 fun e he => by
      obtain ⟨j, hj⟩ := List.getElem?_of_mem he
      have := (List.getElem?_eq_some_iff.mp hj).1
      exact hno j e (by simpa using this) hj)
theorem sp_mapPut {C : Cst} {c : Fc} {n : Nat} {m : Mp} {H A F G : HL} (O : Ok C c (n + 3)) (hp : Pk A H F) {mp : Addr} {es : List Ent} {cm : Nat} {k : Ky} {mk kv : Value} {w : Int} {tw : Tok} {Q : Value → Mp → HL → Prop} (hM : MpB mp es cm A G) (hG : ∀ p ∈ G, p ∈ F) (hk : MarkV k mk G) (hkv : KeyV k kv G) (hz : es.length ≤ 1000)
    (h1 : ∀ (i : Nat) e A', es[i]? = some e → e.k = k → MpB mp (es.set i ⟨e.a, e.no, e.k, w⟩) cm A' G → Q .none m (A' ++ F)) (h2 : (∀ e ∈ es, e.k ≠ k) → ∀ a A', MpB mp (es ++ [⟨a, cm, k, w⟩]) (cm + 1) A' G → Q .none m (A' ++ F)) : W C c m H (call (.ref 143) [.ref mp, mk, kv, .int w tw]) Q := by
  refine W.le hp.le ?_
  obtain ⟨dm, oM, el, e₀, tn, X, hA, hf, hX⟩ := id hM
  subst hA
  refine' W_def (n := n + 2) (binds := [("self", .ref mp), ("mark", mk), ("key", kv), ("value", .int w tw)]) O ?ho ?hcd ?hb ?hl ?_ ?c1 ?c2 ?c3 ?c4
  ((try case hm => k_is); (try case hi => k_is); (try case hf => k_is); (case ho => k_is); (case hcd => k_is); (case hb => first | rfl | exact fun _ => rfl); (try case hl => first | rfl | exact fun _ => rfl); (try case hkd => rfl); (try case hnd => decide); (try case eL => rfl); (try case eC => rfl); (case c1 => rfl); (case c2 => rfl); (case c3 => rfl); (try case c4 => decide); intros; (try simp only [mOf, List.foldl]); (first | (refine W.letE ?_; intro _ _ _) | (refine WX.letE ?_; intro _ _ _ _)))
  (with_reducible refine W_consQ ?_; intro _ _ _; with_reducible refine W_assignN ?_; intro _; with_reducible refine W_methL ?_; intro _; with_reducible refine W_itemsL ?_; intro _; with_reducible refine W_items_nil ?_)
  refine sp_entryOf (n := n) (by assumption) (by k_extra "pk") hM hG (hk.sub hG) (fun i e he hek => ?_) fun hno => ?_
  · obtain ⟨mk', kv', tn', tv', n', q1, q2, q3, q4⟩ := hX.at he
    obtain ⟨X', u, r⟩ := q4 w tw n'
    (with_reducible refine W_consQ ?_; intro _ _ _; with_reducible refine W_If ?_; intro _; with_reducible refine W_isTrue_Compare ?_; intro _; with_reducible refine W_local ?_; with_reducible refine W_none ?_; with_reducible refine W_isnot_ref_none ?_; with_reducible refine W_truthy_bool ?_; with_reducible refine w_condt ?_; with_reducible refine W_consQ ?_; intro _ _ _; with_reducible refine W_AssignItem ?_; intro _; with_reducible refine W_local ?_; with_reducible refine W_local ?_; with_reducible refine W_int ?_; intro _)
    refine W_setItem (vs := [.int e.no tn', mk', kv', .int e.v tv']) (by decide) (by show (3 : Int) < ((4 : Nat) : Int); decide) (H' := ((mp, instObj 151 dm) :: (dm, oM) :: (el, lstOf (refsE es) e₀) :: X') ++ F) ((At.tail (At.tail (At.tail u))).appR F) ?_
    (with_reducible refine W_consQ ?_; intro _ _ _; with_reducible refine W_Return0 ?_)
    refine Dr.id (h1 i e _ he hek ⟨dm, oM, el, e₀, tn, X', ?_, hf, r⟩)
    rw [show refsE (es.set i ⟨e.a, e.no, e.k, w⟩) = refsE es from ?_]
    unfold refsE
    rw [List.map_set]
    exact List.ext_getElem? fun j => by
      by_cases hj : i = j
      · subst hj
        rw [List.getElem?_set_self (by simpa using (List.getElem?_eq_some_iff.mp he).1), List.getElem?_map, he]
        rfl
      · rw [List.getElem?_set_ne hj]
  · (with_reducible refine W_consQ ?_; intro _ _ _)
    (with_reducible refine W_If ?_; intro _; with_reducible refine W_isTrue_Compare ?_; intro _; with_reducible refine W_local ?_; with_reducible refine W_none ?_; with_reducible refine W_isnot_none_none ?_; with_reducible refine W_truthy_bool ?_; with_reducible refine w_condf ?_; with_reducible refine W_nil ?_; with_reducible refine W_consQ ?_; intro _ _ _; with_reducible refine W_Expr ?_; intro _; with_reducible refine W_Method ?_; intro _; with_reducible refine W_attrL ?_; with_reducible refine W_getAppend ?_; with_reducible refine W_callB ?_; intro _; with_reducible refine W_items_cons ?_; intro _; with_reducible refine W_List ?_; intro _; with_reducible refine W_items_cons ?_; intro _; with_reducible refine W_attrL ?_; with_reducible refine W_itemsL ?_; intro _; with_reducible refine W_itemsL ?_; intro _; with_reducible refine W_itemsL ?_; intro _; with_reducible refine W_items_nil ?_; with_reducible refine W_newList ?_; intro _; with_reducible refine W_items_nil ?_)
    rename_i ae
    refine W_append (vs := refsE es) (by repeat (first | exact At.head | apply At.tail | (apply At.app))) ?_ (by simp only [sizeLine_eq, List.length_map]; omega)
    (with_reducible refine W_consQ ?_; intro _ _ _; with_reducible refine W_AssignAttr ?_; intro _; with_reducible refine W_BinOp ?_; intro _; with_reducible refine W_attrL ?_; with_reducible refine W_int ?_; intro _; with_reducible refine W_add ?_; intro _; with_reducible refine W_local ?_)
    rename_i tn2
    refine W_setAttrK (f := mapF el cm tn) (v₀ := .int cm tn) (g := fun o' => (ae, lstOf [.int cm tn, mk, kv, .int w tw] 0) :: (mp, instObj 151 dm) :: (dm, o') :: (el, lstOf (refsE es ++ [.ref ae]) (e₀ + 1)) :: (X ++ F)) (by assumption) (pl151 C) (by k_extra "mm") (fun _ => .tail (.tail .head)) hf (by k_extra "lk") (by k_is) (by decide) fun o' hf' => ?_
    (with_reducible refine W_nil ?_)
    refine ⟨_, Le_move [(mp, instObj 151 dm), (dm, o'), (el, lstOf (refsE es ++ [.ref ae]) (e₀ + 1))] X F, h2 hno ae _ ⟨dm, o', el, e₀ + 1, tn2, X ++ [(ae, lstOf [.int cm tn, mk, kv, .int w tw] 0)], ?_, hf'.same (fun x => ?_), hX.snoc (e := ⟨ae, cm, k, w⟩) hk hkv⟩⟩
    · simp [refsE]
    · rw [upd_set2 (by decide)]
      rfl
theorem sp_takeOut {C : Cst} {c : Fc} {n : Nat} {m : Mp} {H A F G : HL} (O : Ok C c (n + 3)) (hp : Pk A H F) {mp : Addr} {es : List Ent} {cm : Nat} {k : Ky} {mk : Value} {Q : Value → Mp → HL → Prop} (hM : MpB mp es cm A G) (hG : ∀ p ∈ G, p ∈ F) (hk : MarkV k mk F) (hz : es.length ≤ 1000)
    (h : ∀ A', MpB mp (es.filter fun e => decide (e.k ≠ k)) cm A' G → Q .none m (A' ++ F)) : W C c m H (call (.ref 148) [.ref mp, mk]) Q := by
  refine W.le hp.le ?_
  obtain ⟨dm, oM, el, e₀, tn, X, hA, hf, hX⟩ := id hM
  subst hA
  have hXF := hX.sub (.of hG)
  refine' W_defC (n := n + 2) (binds := [("self", .ref mp), ("mark", mk)]) (upd emp "self" (.ref mp)) (upd emp "mark" mk) O ?ho ?hcd ?hb ?hkd ?hnd ?eL ?eC ?_ ?c1 ?c2 ?c3
  ((try case hm => k_is); (try case hi => k_is); (try case hf => k_is); (case ho => k_is); (case hcd => k_is); (case hb => first | rfl | exact fun _ => rfl); (try case hl => first | rfl | exact fun _ => rfl); (try case hkd => rfl); (try case hnd => decide); (try case eL => rfl); (try case eC => rfl); (case c1 => rfl); (case c2 => rfl); (case c3 => rfl); (try case c4 => decide); intros; (try simp only [mOf, List.foldl]); (first | (refine W.letE ?_; intro _ _ _) | (refine WX.letE ?_; intro _ _ _ _)))
  rename_i L cells O1 Y cF QnF QrF
  obtain ⟨o1, rfl, d1⟩ := CellsAre.one Y
  have d1 : o1.data = .cell (some mk) := d1
  (with_reducible refine W_consQ ?_; intro _ _ _; with_reducible refine W_AssignAttr ?_; intro _)
  refine' W_ListComp ?h1 ?h2 ?h3 ?h4 ?h5 ?_
  case h1 => rfl
  case h2 => decide
  case h3 => rfl
  case h4 => decide
  case h5 => rfl
  (with_reducible refine W_attrL ?_)
  refine W_iter_list (vs := refsE es) (e := e₀) (by k_extra "mm") fun it X1 hX1 => ?_
  refine ⟨(refsE es).length, _, _, _, it, X1, _, fun i ys m' H' => m' = upd emp "self" (.ref mp) ∧ ys = refsE ((es.take i).filter fun e => decide (e.k ≠ k)) ∧ H' = (L + 1, o1) :: (((mp, instObj 151 dm) :: (dm, oM) :: (el, lstOf (refsE es) e₀) :: X) ++ F),
    ⟨rfl, It_list (vs := refsE es) (e := e₀), .rfl, hX1, by k_extra "mm", rfl, rfl, rfl⟩, Self_list, by simp only [sizeLine_eq, List.length_map]; omega, fun h => .tail _ (.tail _ h), ?_, ?_⟩
  · rintro i v ys m' H' X' D oC mc2 A' e' hi hyl ⟨hxi, hX'⟩ hneed ⟨rfl, rfl, rfl⟩ hC hm
    obtain ⟨e, he, rfl⟩ : ∃ e, es[i]? = some e ∧ Value.ref e.a = v := by simpa using hxi
    obtain ⟨mk', kv', tn', tv', n', q1, q2, q3, -⟩ := hXF.at he
    have hst : (es.take (i + 1)).filter (fun e => decide (e.k ≠ k)) = (es.take i).filter (fun e => decide (e.k ≠ k)) ++ [e].filter (fun e => decide (e.k ≠ k)) := by
      rw [List.take_add_one, he, List.filter_append]
      rfl
    with_reducible refine W_tests_one ?_
    (with_reducible refine W_isTrue_Compare ?_; intro _; with_reducible refine W_Subscript ?_; intro _; with_reducible refine W_cLocal ?_; with_reducible refine W_int ?_; intro _; with_reducible refine w_lstItem ?_; with_reducible refine W_cCell ?_)
    refine W_neMark (n := n + 1) (by assumption) (q2.sub fun p hp => by k_extra "mm") (hk.sub fun p hp => by k_extra "mm") ?_
    (with_reducible refine W_truthy_bool ?_)
    refine ⟨fun q => ?_, fun q => ?_⟩
    · have q : e.k ≠ k := by simpa using q
      (with_reducible refine W_cLocal ?_)
      refine ⟨X', oC, mc2, _, ?_, hX', hC, ?_, rfl, ?_, rfl⟩
      · k_extra "le"
      · k_extra "mm"
      · rw [hst, List.filter_cons_of_pos (by simpa using q), List.filter_nil]
        simp [refsE]
    · have q : e.k = k := by simpa using q
      refine ⟨X', oC, mc2, _, ?_, hX', hC, ?_, rfl, ?_, rfl⟩
      · k_extra "le"
      · k_extra "mm"
      · rw [hst, List.filter_cons_of_neg (by simpa using q), List.filter_nil, List.append_nil]
  · rintro ys m' H' A' e' hyl hneed ⟨rfl, rfl, rfl⟩
    (with_reducible refine W_local ?_)
    rw [show (es.take (refsE es).length).filter (fun e => decide (e.k ≠ k)) = es.filter fun e => decide (e.k ≠ k) by rw [List.length_map, List.take_length]]
    refine W_setAttrK (f := mapF el cm tn) (v₀ := .ref el) (g := fun o' => (A', lstOf (refsE (es.filter fun e => decide (e.k ≠ k))) e') :: (L + 1, o1) :: (mp, instObj 151 dm) :: (dm, o') :: (el, lstOf (refsE es) e₀) :: (X ++ F)) (by assumption) (pl151 C) (by k_extra "mm") (fun _ => .tail (.tail (.tail .head))) hf (by k_extra "lk") (by k_is) (by decide) fun o' hf' => ?_
    (with_reducible refine W_nil ?_)
    obtain ⟨X2, hX2, hsub⟩ := hX.filter fun e => decide (e.k ≠ k)
    refine ⟨((mp, instObj 151 dm) :: (dm, o') :: (A', lstOf (refsE (es.filter fun e => decide (e.k ≠ k))) e') :: X2) ++ F, ?_, h _ ⟨dm, o', A', e', tn, X2, rfl, hf'.same fun x => ?_, hX2⟩⟩
    · refine Le.trans (H2 := (mp, instObj 151 dm) :: (dm, o') :: (A', lstOf (refsE (es.filter fun e => decide (e.k ≠ k))) e') :: (X ++ F)) (Le.cons (Le.cons (Le.cons (Le.of_sub (hsub.append_right F))))) ?_
      k_extra "le"
    · rw [upd_set1 (by decide)]
inductive SmB (st mp : Addr) (A : HL) : Prop
  | mk (ds : Addr) (o : Obj) (mc : Addr) (ca : Addr) (rl : Addr) (ma : Addr) (k : Nat) (e : Nat) (q0 : A = [(st, instObj 275 ds), (ds, o), (ma, lstOf [.ref mp] e)]) (q1 : Flds (storeF (.ref mc) ca rl ma) k o) : SmB st mp A
inductive TabV (v : Value) (F : HL) : Prop
  | mk (a : Addr) (t1 : Tok) (t2 : Tok) (q0 : v = .ref a) (q1 : (a, tupOf [.str "map" t1, .int 0 t2]) ∈ F) : TabV v F
theorem TabV.sub {v : Value} {F F' : HL} (h : TabV v F) (s : ∀ p ∈ F, p ∈ F') : TabV v F' := by
  obtain ⟨a, t1, t2, rfl, h1⟩ := h
  exact ⟨a, t1, t2, rfl, s _ h1⟩
theorem sp_mapOf {C : Cst} {c : Fc} {n : Nat} {m : Mp} {H S : HL} (O : Ok C c (n + 1)) {st mp : Addr} {v : Value} {Q : Value → Mp → HL → Prop} (hS : SmB st mp S) (hs : ∀ p ∈ S, p ∈ H) (hv : TabV v H) (h : Q (.ref mp) m H) : W C c m H (call (.ref 251) [.ref st, v]) Q := by
  obtain ⟨ds, o, mc, ca, rl, ma, k, e, rfl, hf⟩ := hS
  obtain ⟨a, t1, t2, rfl, h1⟩ := hv
  have s1 : (st, instObj 275 ds) ∈ H := hs _ (.head _)
  have s2 : (ds, o) ∈ H := hs _ (.tail _ (.head _))
  have s3 : (ma, lstOf [.ref mp] e) ∈ H := hs _ (.tail _ (.tail _ (.head _)))
  refine' W_def (n := n) (binds := [("self", .ref st), ("value", .ref a)]) O ?ho ?hcd ?hb ?hl ?_ ?c1 ?c2 ?c3 ?c4
  ((try case hm => k_is); (try case hi => k_is); (try case hf => k_is); (case ho => k_is); (case hcd => k_is); (case hb => first | rfl | exact fun _ => rfl); (try case hl => first | rfl | exact fun _ => rfl); (try case hkd => rfl); (try case hnd => decide); (try case eL => rfl); (try case eC => rfl); (case c1 => rfl); (case c2 => rfl); (case c3 => rfl); (try case c4 => decide); intros; (try simp only [mOf, List.foldl]); (first | (refine W.letE ?_; intro _ _ _) | (refine WX.letE ?_; intro _ _ _ _)))
  (with_reducible refine W_consQ ?_; intro _ _ _; with_reducible refine W_Return ?_; with_reducible refine W_IfExp ?_; intro _; with_reducible refine W_isNoneR ?_; with_reducible refine w_condf ?_; with_reducible refine W_Subscript ?_; intro _; with_reducible refine W_attrL ?_; with_reducible refine W_tupL ?_; with_reducible refine w_lstItem ?_)
  exact Dr.id h
theorem sp_mapOf0 {C : Cst} {c : Fc} {n : Nat} {m : Mp} {H : HL} (O : Ok C c (n + 1)) {st : Value} {Q : Value → Mp → HL → Prop} (h : Q .none m H) : W C c m H (call (.ref 251) [st, .none]) Q := by
  refine' W_def (n := n) (binds := [("self", st), ("value", .none)]) O ?ho ?hcd ?hb ?hl ?_ ?c1 ?c2 ?c3 ?c4
  ((try case hm => k_is); (try case hi => k_is); (try case hf => k_is); (case ho => k_is); (case hcd => k_is); (case hb => first | rfl | exact fun _ => rfl); (try case hl => first | rfl | exact fun _ => rfl); (try case hkd => rfl); (try case hnd => decide); (try case eL => rfl); (try case eC => rfl); (case c1 => rfl); (case c2 => rfl); (case c3 => rfl); (try case c4 => decide); intros; (try simp only [mOf, List.foldl]); (first | (refine W.letE ?_; intro _ _ _) | (refine WX.letE ?_; intro _ _ _ _)))
  (with_reducible refine W_consQ ?_; intro _ _ _; with_reducible refine W_Return ?_; with_reducible refine W_IfExp ?_; intro _; with_reducible refine W_isNoneN ?_; with_reducible refine w_condt ?_; with_reducible refine W_none ?_)
  exact Dr.id h
theorem sp_putKey {C : Cst} {c : Fc} {n : Nat} {m : Mp} {H A S F G : HL} (O : Ok C c (n + 6)) (hp : Pk A H F) {st mp : Addr} {es : List Ent} {cm : Nat} {k : Ky} {v kv : Value} {w : Int} {tw : Tok} {Q : Value → Mp → HL → Prop} (hM : MpB mp es cm A G) (hG : ∀ p ∈ G, p ∈ F) (hS : SmB st mp S) (hs : ∀ p ∈ S, p ∈ F) (hv : TabV v F) (hkv : KeyV k kv G) (hz : es.length ≤ 1000)
    (h1 : ∀ (i : Nat) e A' X, es[i]? = some e → e.k = k → MpB mp (es.set i ⟨e.a, e.no, e.k, w⟩) cm A' (X ++ G) → Q .none m (A' ++ (X ++ F))) (h2 : (∀ e ∈ es, e.k ≠ k) → ∀ a A' X, MpB mp (es ++ [⟨a, cm, k, w⟩]) (cm + 1) A' (X ++ G) → Q .none m (A' ++ (X ++ F))) : W C c m H (call (.ref 265) [.ref st, v, kv, .int w tw]) Q := by
  refine W.le hp.le ?_
  obtain ⟨dm, oM, el, e₀, tn, X, hA, hf, hX⟩ := id hM
  subst hA
  obtain ⟨ds, o, mc, ca, rl, ma, k', e, hA, hf2⟩ := id hS
  subst hA
  have s1 : (st, instObj 275 ds) ∈ F := hs _ (.head _)
  have s2 : (ds, o) ∈ F := hs _ (.tail _ (.head _))
  obtain ⟨a, t1, t2, rfl, hta⟩ := id hv
  refine' W_def (n := n + 5) (binds := [("self", .ref st), ("value", .ref a), ("key", kv), ("told", .int w tw)]) O ?ho ?hcd ?hb ?hl ?_ ?c1 ?c2 ?c3 ?c4
  ((try case hm => k_is); (try case hi => k_is); (try case hf => k_is); (case ho => k_is); (case hcd => k_is); (case hb => first | rfl | exact fun _ => rfl); (try case hl => first | rfl | exact fun _ => rfl); (try case hkd => rfl); (try case hnd => decide); (try case eL => rfl); (try case eC => rfl); (case c1 => rfl); (case c2 => rfl); (case c3 => rfl); (try case c4 => decide); intros; (try simp only [mOf, List.foldl]); (first | (refine W.letE ?_; intro _ _ _) | (refine WX.letE ?_; intro _ _ _ _)))
  (with_reducible refine W_consQ ?_; intro _ _ _; with_reducible refine W_If ?_; intro _; with_reducible refine W_isNoneR ?_; with_reducible refine w_condf ?_; with_reducible refine W_nil ?_; with_reducible refine W_consQ ?_; intro _ _ _; with_reducible refine W_Expr ?_; intro _; with_reducible refine W_Method ?_; intro _; with_reducible refine W_methL ?_; intro _; with_reducible refine W_itemsL ?_; intro _; with_reducible refine W_items_nil ?_)
  refine sp_mapOf (n := n + 4) (by assumption) hS (fun p hp => List.mem_append_right _ (hs p hp)) (hv.sub fun p hp => List.mem_append_right _ hp) ?_
  (with_reducible refine W_method ?_; with_reducible refine W_callK ?_; intro _; with_reducible refine W_items_cons ?_; intro _; with_reducible refine W_callG ?_; intro _; with_reducible refine W_itemsL ?_; intro _; with_reducible refine W_items_cons ?_; intro _; with_reducible refine W_attrL ?_; with_reducible refine W_items_nil ?_)
  refine sp_valueKey (n := n) (by assumption) (hkv.sub fun p hp => List.mem_append_right _ (hG p hp)) fun mk X2 hmk => ?_
  (with_reducible refine W_itemsL ?_; intro _; with_reducible refine W_itemsL ?_; intro _; with_reducible refine W_items_nil ?_)
  refine sp_mapPut (n := n + 2) (by assumption) (F := X2 ++ F) (by k_extra "pk") (G := X2 ++ G) (hM.sub (.of fun p hp => List.mem_append_right _ hp)) (fun p hp => (List.mem_append.mp hp).elim (fun q => List.mem_append_left _ q) fun q => List.mem_append_right _ (hG p q)) (hmk.sub fun p hp => List.mem_append_left _ hp) (hkv.sub fun p hp => List.mem_append_right _ hp) hz (fun i e A' he hek hM' => ?_) fun hno a' A' hM' => ?_
  · (with_reducible refine W_nil ?_)
    exact Dr.id (h1 i e A' X2 he hek hM')
  · (with_reducible refine W_nil ?_)
    exact Dr.id (h2 hno a' A' X2 hM')
theorem sp_dropKey {C : Cst} {c : Fc} {n : Nat} {m : Mp} {H A S F G : HL} (O : Ok C c (n + 6)) (hp : Pk A H F) {st mp : Addr} {es : List Ent} {cm : Nat} {k : Ky} {v kv : Value} {Q : Value → Mp → HL → Prop} (hM : MpB mp es cm A G) (hG : ∀ p ∈ G, p ∈ F) (hS : SmB st mp S) (hs : ∀ p ∈ S, p ∈ F) (hv : TabV v F) (hkv : KeyV k kv F) (hz : es.length ≤ 1000)
    (h : ∀ A' X, MpB mp (es.filter fun e => decide (e.k ≠ k)) cm A' G → Q .none m (A' ++ (X ++ F))) : W C c m H (call (.ref 272) [.ref st, v, kv]) Q := by
  refine W.le hp.le ?_
  obtain ⟨dm, oM, el, e₀, tn, X, hA, hf, hX⟩ := id hM
  subst hA
  obtain ⟨ds, o, mc, ca, rl, ma, k', e, hA, hf2⟩ := id hS
  subst hA
  have s1 : (st, instObj 275 ds) ∈ F := hs _ (.head _)
  have s2 : (ds, o) ∈ F := hs _ (.tail _ (.head _))
  obtain ⟨a, t1, t2, rfl, hta⟩ := id hv
  refine' W_def (n := n + 5) (binds := [("self", .ref st), ("value", .ref a), ("key", kv)]) O ?ho ?hcd ?hb ?hl ?_ ?c1 ?c2 ?c3 ?c4
  ((try case hm => k_is); (try case hi => k_is); (try case hf => k_is); (case ho => k_is); (case hcd => k_is); (case hb => first | rfl | exact fun _ => rfl); (try case hl => first | rfl | exact fun _ => rfl); (try case hkd => rfl); (try case hnd => decide); (try case eL => rfl); (try case eC => rfl); (case c1 => rfl); (case c2 => rfl); (case c3 => rfl); (try case c4 => decide); intros; (try simp only [mOf, List.foldl]); (first | (refine W.letE ?_; intro _ _ _) | (refine WX.letE ?_; intro _ _ _ _)))
  with_reducible refine W_cons ?_
  refine' W_AssignSwap ?_ ?hs1 ?hw1
  case hs1 => rfl
  case hw1 => rfl
  (with_reducible refine W_Tuple ?_; intro _; with_reducible refine W_items_cons ?_; intro _; with_reducible refine W_callG ?_; intro _; with_reducible refine W_itemsL ?_; intro _; with_reducible refine W_items_cons ?_; intro _; with_reducible refine W_attrL ?_; with_reducible refine W_items_nil ?_)
  refine sp_valueKey (n := n) (by assumption) (hkv.sub fun p hp => List.mem_append_right _ hp) fun mk X2 hmk => ?_
  (with_reducible refine W_items_cons ?_; intro _; with_reducible refine W_methL ?_; intro _; with_reducible refine W_itemsL ?_; intro _; with_reducible refine W_items_nil ?_)
  refine sp_mapOf (n := n + 4) (by assumption) hS (fun p hp => List.mem_append_right _ (List.mem_append_right _ (hs p hp))) (hv.sub fun p hp => by k_extra "mm") ?_
  (with_reducible refine W_items_nil ?_; with_reducible refine W_newTuple ?_; intro _)
  refine ⟨_, _, rfl, .head _, rfl, ?_⟩
  refine W_swapCons ?_
  (with_reducible refine W_store ?_)
  refine W_swapCons ?_
  (with_reducible refine W_store ?_)
  refine W_swapNil ?_
  refine W.le (Le.rfl.drop) ?_
  (with_reducible refine W_consQ ?_; intro _ _ _; with_reducible refine W_If ?_; intro _; with_reducible refine W_isTrue_Compare ?_; intro _; with_reducible refine W_local ?_; with_reducible refine W_none ?_; with_reducible refine W_isnot_ref_none ?_; with_reducible refine W_truthy_bool ?_; with_reducible refine w_condt ?_; with_reducible refine W_consQ ?_; intro _ _ _; with_reducible refine W_Expr ?_; intro _; with_reducible refine W_methL ?_; intro _; with_reducible refine W_itemsL ?_; intro _; with_reducible refine W_items_nil ?_)
  refine sp_takeOut (n := n + 2) (by assumption) (F := X2 ++ F) (by k_extra "pk") hM (fun p hp => List.mem_append_right _ (hG p hp)) (hmk.sub fun p hp => List.mem_append_left _ hp) hz fun A' hM' => ?_
  (with_reducible refine W_nil ?_; with_reducible refine W_nil ?_)
  exact Dr.id (h A' X2 hM')
theorem sp_lookedUp {C : Cst} {c : Fc} {n : Nat} {m : Mp} {H A S F G : HL} (O : Ok C c (n + 6)) (hp : Pk A H F) {st mp : Addr} {es : List Ent} {cm : Nat} {k : Ky} {v kv : Value} {Q : Value → Mp → HL → Prop} (hM : MpB mp es cm A G) (hG : ∀ p ∈ G, p ∈ F) (hS : SmB st mp S) (hs : ∀ p ∈ S, p ∈ F) (hv : TabV v F) (hkv : KeyV k kv F)
    (h1 : ∀ (i : Nat) e a X t, es[i]? = some e → e.k = k → Q (.ref a) m ((a, tupOf [.int e.v t, .bool true]) :: (A ++ (X ++ F)))) (h2 : (∀ e ∈ es, e.k ≠ k) → ∀ a X, Q (.ref a) m ((a, tupOf [.none, .bool false]) :: (A ++ (X ++ F)))) : W C c m H (call (.ref 258) [.ref st, v, kv]) Q := by
  refine W.le hp.le ?_
  obtain ⟨dm, oM, el, e₀, tn, X, hA, hf, hX⟩ := id hM
  subst hA
  obtain ⟨ds, o, mc, ca, rl, ma, k', e, hA, hf2⟩ := id hS
  subst hA
  have s1 : (st, instObj 275 ds) ∈ F := hs _ (.head _)
  have s2 : (ds, o) ∈ F := hs _ (.tail _ (.head _))
  obtain ⟨a, t1, t2, rfl, hta⟩ := id hv
  refine' W_def (n := n + 5) (binds := [("self", .ref st), ("value", .ref a), ("key", kv)]) O ?ho ?hcd ?hb ?hl ?_ ?c1 ?c2 ?c3 ?c4
  ((try case hm => k_is); (try case hi => k_is); (try case hf => k_is); (case ho => k_is); (case hcd => k_is); (case hb => first | rfl | exact fun _ => rfl); (try case hl => first | rfl | exact fun _ => rfl); (try case hkd => rfl); (try case hnd => decide); (try case eL => rfl); (try case eC => rfl); (case c1 => rfl); (case c2 => rfl); (case c3 => rfl); (try case c4 => decide); intros; (try simp only [mOf, List.foldl]); (first | (refine W.letE ?_; intro _ _ _) | (refine WX.letE ?_; intro _ _ _ _)))
  with_reducible refine W_cons ?_
  refine' W_AssignSwap ?_ ?hs1 ?hw1
  case hs1 => rfl
  case hw1 => rfl
  (with_reducible refine W_Tuple ?_; intro _; with_reducible refine W_items_cons ?_; intro _; with_reducible refine W_callG ?_; intro _; with_reducible refine W_itemsL ?_; intro _; with_reducible refine W_items_cons ?_; intro _; with_reducible refine W_attrL ?_; with_reducible refine W_items_nil ?_)
  refine sp_valueKey (n := n) (by assumption) (hkv.sub fun p hp => List.mem_append_right _ hp) fun mk X2 hmk => ?_
  (with_reducible refine W_items_cons ?_; intro _; with_reducible refine W_methL ?_; intro _; with_reducible refine W_itemsL ?_; intro _; with_reducible refine W_items_nil ?_)
  refine sp_mapOf (n := n + 4) (by assumption) hS (fun p hp => List.mem_append_right _ (List.mem_append_right _ (hs p hp))) (hv.sub fun p hp => by k_extra "mm") ?_
  (with_reducible refine W_items_nil ?_; with_reducible refine W_newTuple ?_; intro _)
  refine ⟨_, _, rfl, .head _, rfl, ?_⟩
  refine W_swapCons ?_
  (with_reducible refine W_store ?_)
  refine W_swapCons ?_
  (with_reducible refine W_store ?_)
  refine W_swapNil ?_
  refine W.le (Le.rfl.drop) ?_
  (with_reducible refine W_consQ ?_; intro _ _ _; with_reducible refine W_assignN ?_; intro _; with_reducible refine W_IfExp ?_; intro _; with_reducible refine W_isNoneR ?_; with_reducible refine w_condf ?_; with_reducible refine W_methL ?_; intro _; with_reducible refine W_itemsL ?_; intro _; with_reducible refine W_items_nil ?_)
  refine sp_entryOf (n := n + 3) (by assumption) (F := X2 ++ F) (by k_extra "pk") hM (fun p hp => List.mem_append_right _ (hG p hp)) (hmk.sub fun p hp => List.mem_append_left _ hp) (fun i e he hek => ?_) fun hno => ?_
  · obtain ⟨mk', kv', tn', tv', n', q1, q2, q3, q4⟩ := hX.at he
    (with_reducible refine W_consQ ?_; intro _ _ _; with_reducible refine W_Return ?_; with_reducible refine W_IfExp ?_; intro _; with_reducible refine W_isNoneR ?_; with_reducible refine w_condf ?_; with_reducible refine W_Tuple ?_; intro _; with_reducible refine W_items_cons ?_; intro _; with_reducible refine W_Subscript ?_; intro _; with_reducible refine W_local ?_; with_reducible refine W_int ?_; intro _; with_reducible refine w_lstItem ?_; with_reducible refine W_items_cons ?_; intro _; with_reducible refine W_true ?_; with_reducible refine W_items_nil ?_; with_reducible refine W_newTuple ?_; intro _)
    exact Dr.id (h1 i e _ X2 _ he hek)
  · (with_reducible refine W_consQ ?_; intro _ _ _; with_reducible refine W_Return ?_; with_reducible refine W_IfExp ?_; intro _; with_reducible refine W_isNoneN ?_; with_reducible refine w_condt ?_; with_reducible refine W_Tuple ?_; intro _; with_reducible refine W_items_cons ?_; intro _; with_reducible refine W_none ?_; with_reducible refine W_items_cons ?_; intro _; with_reducible refine W_true ?_; with_reducible refine W_items_nil ?_; with_reducible refine W_newTuple ?_; intro _)
    exact Dr.id (h2 hno _ X2)
theorem sp_lookedUp0 {C : Cst} {c : Fc} {n : Nat} {m : Mp} {H S F : HL} (O : Ok C c (n + 6)) {st mp : Addr} {k : Ky} {kv : Value} {Q : Value → Mp → HL → Prop} (hS : SmB st mp S) (hs : ∀ p ∈ S, p ∈ H) (hkv : KeyV k kv H)
    (h2 : ∀ a X, Q (.ref a) m ((a, tupOf [.none, .bool false]) :: (X ++ H))) : W C c m H (call (.ref 258) [.ref st, .none, kv]) Q := by
  obtain ⟨ds, o, mc, ca, rl, ma, k', e, hA, hf2⟩ := id hS
  subst hA
  have s1 : (st, instObj 275 ds) ∈ H := hs _ (.head _)
  have s2 : (ds, o) ∈ H := hs _ (.tail _ (.head _))
  refine' W_def (n := n + 5) (binds := [("self", .ref st), ("value", .none), ("key", kv)]) O ?ho ?hcd ?hb ?hl ?_ ?c1 ?c2 ?c3 ?c4
  ((try case hm => k_is); (try case hi => k_is); (try case hf => k_is); (case ho => k_is); (case hcd => k_is); (case hb => first | rfl | exact fun _ => rfl); (try case hl => first | rfl | exact fun _ => rfl); (try case hkd => rfl); (try case hnd => decide); (try case eL => rfl); (try case eC => rfl); (case c1 => rfl); (case c2 => rfl); (case c3 => rfl); (try case c4 => decide); intros; (try simp only [mOf, List.foldl]); (first | (refine W.letE ?_; intro _ _ _) | (refine WX.letE ?_; intro _ _ _ _)))
  with_reducible refine W_cons ?_
  refine' W_AssignSwap ?_ ?hs1 ?hw1
  case hs1 => rfl
  case hw1 => rfl
  (with_reducible refine W_Tuple ?_; intro _; with_reducible refine W_items_cons ?_; intro _; with_reducible refine W_callG ?_; intro _; with_reducible refine W_itemsL ?_; intro _; with_reducible refine W_items_cons ?_; intro _; with_reducible refine W_attrL ?_; with_reducible refine W_items_nil ?_)
  refine sp_valueKey (n := n) (by assumption) hkv fun mk X2 hmk => ?_
  (with_reducible refine W_items_cons ?_; intro _; with_reducible refine W_methL ?_; intro _; with_reducible refine W_itemsL ?_; intro _; with_reducible refine W_items_nil ?_)
  refine sp_mapOf0 (n := n + 4) (by assumption) ?_
  (with_reducible refine W_items_nil ?_; with_reducible refine W_newTuple ?_; intro _)
  refine ⟨_, _, rfl, .head _, rfl, ?_⟩
  refine W_swapCons ?_
  (with_reducible refine W_store ?_)
  refine W_swapCons ?_
  (with_reducible refine W_store ?_)
  refine W_swapNil ?_
  refine W.le (Le.rfl.drop) ?_
  (with_reducible refine W_consQ ?_; intro _ _ _; with_reducible refine W_assignN ?_; intro _; with_reducible refine W_IfExp ?_; intro _; with_reducible refine W_isNoneN ?_; with_reducible refine w_condt ?_; with_reducible refine W_none ?_; with_reducible refine W_consQ ?_; intro _ _ _; with_reducible refine W_Return ?_; with_reducible refine W_IfExp ?_; intro _; with_reducible refine W_isNoneN ?_; with_reducible refine w_condt ?_; with_reducible refine W_Tuple ?_; intro _; with_reducible refine W_items_cons ?_; intro _; with_reducible refine W_none ?_; with_reducible refine W_items_cons ?_; intro _; with_reducible refine W_true ?_; with_reducible refine W_items_nil ?_; with_reducible refine W_newTuple ?_; intro _)
  exact Dr.id (h2 _ X2)
theorem pl301 (C : Cst) : Plain (Mine.kk C.w.params) 301 := ⟨by k_is, by k_is, by k_is, by k_is, by k_is⟩
theorem pl329 (C : Cst) : Plain (Mine.kk C.w.params) 329 := ⟨by k_is, by k_is, by k_is, by k_is, by k_is⟩
local macro_rules | `(tactic| k_extra "pl") => `(tactic| first | with_reducible exact pl301 _ | with_reducible exact pl329 _ | with_reducible exact pl151 _ | with_reducible exact plain275 _)
noncomputable abbrev chF (rw : Addr) (tk : Nat) (t : Tok) : Mp := upd (upd emp "row" (.ref rw)) "taken" (.int (tk : Int) t)
inductive ChB (ch rw : Addr) (tk : Nat) (A : HL) : Prop
  | mk (dc : Addr) (oc : Obj) (t : Tok) (q0 : A = [(ch, instObj 329 dc), (dc, oc)]) (q1 : Flds (chF rw tk t) 2 oc) : ChB ch rw tk A
noncomputable def pickN (ds : List Int) (tk many : Nat) : Nat × Nat := if many ≤ 1 then (0, tk) else (match ds[tk]? with | some d => (d.fmod many).toNat | none => 0, tk + 1)
theorem sp_pick {C : Cst} {c : Fc} {n : Nat} {m : Mp} {H A F : HL} (O : Ok C c (n + 1)) (hp : Pk A H F) {ch rw : Addr} {tk : Nat} {ds : List Int} {dvs : List Value} {e many : Nat} {tm : Tok} {Q : Value → Mp → HL → Prop} (hC : ChB ch rw tk A) (hr : (rw, lstOf dvs e) ∈ F) (hd : IntsAre dvs ds) (h0 : ∀ d ∈ ds, (0 : Int) ≤ d) (hz : ds.length ≤ 1000) (htk : tk ≤ 1000)
    (h : ∀ A' t, ChB ch rw (pickN ds tk many).2 A' → Q (.int ((pickN ds tk many).1 : Nat) t) m (A' ++ F)) : W C c m H (call (.ref 326) [.ref ch, .int (many : Int) tm]) Q := by
  refine W.le hp.le ?_
  obtain ⟨dc, oc, t, hA, hf⟩ := id hC
  subst hA
  have hdl := hd.length
  refine' W_def (n := n) (binds := [("self", .ref ch), ("many", .int (many : Int) tm)]) O ?ho ?hcd ?hb ?hl ?_ ?c1 ?c2 ?c3 ?c4
  ((try case hm => k_is); (try case hi => k_is); (try case hf => k_is); (case ho => k_is); (case hcd => k_is); (case hb => first | rfl | exact fun _ => rfl); (try case hl => first | rfl | exact fun _ => rfl); (try case hkd => rfl); (try case hnd => decide); (try case eL => rfl); (try case eC => rfl); (case c1 => rfl); (case c2 => rfl); (case c3 => rfl); (try case c4 => decide); intros; (try simp only [mOf, List.foldl]); (first | (refine W.letE ?_; intro _ _ _) | (refine WX.letE ?_; intro _ _ _ _)))
  (with_reducible refine W_consQ ?_; intro _ _ _; with_reducible refine W_If ?_; intro _; with_reducible refine W_isTrue_Compare ?_; intro _; with_reducible refine W_local ?_; with_reducible refine W_int ?_; intro _; with_reducible refine W_le ?_; with_reducible refine W_truthy_bool ?_)
  refine ⟨fun q => ?_, fun q => ?_⟩
  · have q : many ≤ 1 := by have := of_decide_eq_true q; omega
    (with_reducible refine W_consQ ?_; intro _ _ _; with_reducible refine W_Return ?_; with_reducible refine W_int ?_; intro _)
    have e : pickN ds tk many = (0, tk) := by unfold pickN; rw [if_pos q]
    rw [e] at h
    exact Dr.id (h _ _ hC)
  · have q : ¬ many ≤ 1 := by have := of_decide_eq_false q; omega
    (with_reducible refine W_nil ?_; with_reducible refine W_consQ ?_; intro _ _ _; with_reducible refine W_assignN ?_; intro _; with_reducible refine W_attrL ?_; with_reducible refine W_consQ ?_; intro _ _ _; with_reducible refine W_AssignAttr ?_; intro _; with_reducible refine W_BinOp ?_; intro _; with_reducible refine W_local ?_; with_reducible refine W_int ?_; intro _; with_reducible refine W_add ?_; intro _; with_reducible refine W_local ?_)
    rename_i tt
    refine W_setAttrK (f := chF rw tk t) (v₀ := .int tk t) (g := fun o' => [(ch, instObj 329 dc), (dc, o')] ++ F) (by assumption) (pl329 C) (by k_extra "mm") (fun _ => .tail .head) hf (by k_extra "lk") (by k_is) (by decide) fun o' hf' => ?_
    have hC' : ChB ch rw (tk + 1) [(ch, instObj 329 dc), (dc, o')] := ⟨dc, o', tt, rfl, hf'.same fun x => by rw [upd_set2 (by decide)]; rfl⟩
    (with_reducible refine W_consQ ?_; intro _ _ _; with_reducible refine W_Return ?_; with_reducible refine W_IfExp ?_; intro _; with_reducible refine W_isTrue_Compare ?_; intro _; with_reducible refine W_local ?_; with_reducible refine W_CallName ?_; intro _; with_reducible refine W_bltn ?_; with_reducible refine W_callB0 ?_; intro _; with_reducible refine W_items_cons ?_; intro _; with_reducible refine W_attrL ?_; with_reducible refine W_items_nil ?_)
    refine W_len (vs := dvs) (by k_extra "mm") (fun t3 => ?_) (by omega)
    (with_reducible refine W_lt ?_; with_reducible refine W_truthy_bool ?_)
    refine ⟨fun q2 => ?_, fun q2 => ?_⟩
    · have q2 : tk < ds.length := by have := of_decide_eq_true q2; omega
      obtain ⟨d, hd1⟩ : ∃ d, ds[tk]? = some d := ⟨ds[tk], by simp [q2]⟩
      obtain ⟨td, hd2⟩ := ints_get hd hd1
      have hd0 := h0 d (List.mem_of_getElem? hd1)
      (with_reducible refine W_BinOp ?_; intro _; with_reducible refine W_Subscript ?_; intro _; with_reducible refine W_attrL ?_; with_reducible refine W_local ?_)
      refine W_lstItem (by k_extra "mm") (by omega) (get_int' hd2) ?_ (by omega)
      (with_reducible refine W_local ?_)
      refine W_mod (by omega) fun t4 => ?_
      have e : pickN ds tk many = ((d.fmod many).toNat, tk + 1) := by unfold pickN; rw [if_neg q, hd1]
      rw [e] at h
      have hm0 : 0 ≤ d.fmod many := fm0 (by omega)
      rw [← Int.toNat_of_nonneg hm0]
      exact Dr.id (h _ _ hC')
    · have q2 : ¬ tk < ds.length := by have := of_decide_eq_false q2; omega
      (with_reducible refine W_int ?_; intro _)
      have e : pickN ds tk many = (0, tk + 1) := by unfold pickN; rw [if_neg q, List.getElem?_eq_none (by omega)]
      rw [e] at h
      exact Dr.id (h _ _ hC')
noncomputable abbrev mrF (mp : Addr) (fin : Nat) (t : Tok) (tl : Addr) : Mp := upd (upd (upd emp "table" (.ref mp)) "end" (.int (fin : Int) t)) "told" (.ref tl)
inductive MrB (way mp : Addr) (fin : Nat) (nos : List Nat) (A : HL) : Prop
  | mk (dw : Addr) (oW : Obj) (t : Tok) (tl : Addr) (ts : List Value) (e : Nat) (q0 : A = [(way, instObj 301 dw), (dw, oW), (tl, lstOf ts e)]) (q1 : Flds (mrF mp fin t tl) 3 oW) (q2 : IntsAre ts (nos.map fun x : Nat => (x : Int))) : MrB way mp fin nos A
noncomputable def actE (es : List Ent) (fin : Nat) (nos : List Nat) : List Ent := es.filter fun e => decide (e.no < fin) && !(nos.any (· == e.no))
theorem any_cast (nos : List Nat) (k : Nat) : ((nos.map fun x : Nat => (x : Int)).any (· == (k : Int))) = nos.any (· == k) := by
  induction nos with
  | nil => rfl
  | cons x xs ih =>
    rw [List.map_cons, List.any_cons, List.any_cons, ih]
    have e : ((x : Int) == (k : Int)) = (x == k) := by
      rw [Bool.eq_iff_iff, beq_iff_eq, beq_iff_eq]
      omega
    rw [e]
theorem pickN_lt {ds : List Int} {tk many : Nat} (h0 : ∀ d ∈ ds, (0 : Int) ≤ d) (hm : many ≠ 0) : (pickN ds tk many).1 < many := by
  unfold pickN
  split
  · exact Nat.pos_of_ne_zero hm
  · cases q : ds[tk]? with
    | none => exact Nat.pos_of_ne_zero hm
    | some d =>
      have := h0 d (List.mem_of_getElem? q)
      have a := fm0 (a := d) (b := (many : Int)) (by omega)
      have b := fm1 (a := d) (b := (many : Int)) (by omega)
      show (d.fmod many).toNat < many
      omega
theorem sp_next {C : Cst} {c : Fc} {n : Nat} {m : Mp} {H H1 H2 A Wb Cb F G : HL} (O : Ok C c (n + 3)) (hpA : Pk A H H1) (hpW : Pk Wb H1 H2) (hpC : Pk Cb H2 F) {way mp ch rw : Addr} {es : List Ent} {cm fin tk : Nat} {nos : List Nat} {ds : List Int} {dvs : List Value} {ed : Nat} {Q : Value → Mp → HL → Prop}
    (hM : MpB mp es cm A G) (hG : ∀ p ∈ G, p ∈ F) (hW : MrB way mp fin nos Wb) (hC : ChB ch rw tk Cb) (hr : (rw, lstOf dvs ed) ∈ F) (hd : IntsAre dvs ds) (h0 : ∀ d ∈ ds, (0 : Int) ≤ d) (hz : ds.length ≤ 1000) (htk : tk ≤ 1000) (hes : es.length ≤ 1000) (hno : nos.length ≤ 1000)
    (h1 : actE es fin nos = [] → Q .none m (A ++ (Wb ++ (Cb ++ F))))
    (h2 : actE es fin nos ≠ [] → ∀ e Wb' Cb' r kv t, (actE es fin nos)[(pickN ds tk (actE es fin nos).length).1]? = some e → MrB way mp fin (nos ++ [e.no]) Wb' → ChB ch rw (pickN ds tk (actE es fin nos).length).2 Cb' → KeyV e.k kv G → Q (.ref r) m ((r, tupOf [kv, .int e.v t]) :: (A ++ (Wb' ++ (Cb' ++ F))))) : W C c m H (call (.ref 298) [.ref way, .ref ch]) Q := by
  refine W.le (hpA.le.trans' (hpW.le.trans' hpC.le)) ?_
  obtain ⟨dm, oM, el, e₀, tn, X, hA, hf, hX⟩ := id hM
  subst hA
  obtain ⟨dw, oW, tw, tl, ts, et, hA, hf2, hts⟩ := id hW
  subst hA
  obtain ⟨dc, oc, t, hA, hf3⟩ := id hC
  subst hA
  refine' W_defC (n := n + 2) (binds := [("self", .ref way), ("choices", .ref ch)]) (upd emp "choices" (.ref ch)) (upd emp "self" (.ref way)) O ?ho ?hcd ?hb ?hkd ?hnd ?eL ?eC ?_ ?c1 ?c2 ?c3
  ((try case hm => k_is); (try case hi => k_is); (try case hf => k_is); (case ho => k_is); (case hcd => k_is); (case hb => first | rfl | exact fun _ => rfl); (try case hl => first | rfl | exact fun _ => rfl); (try case hkd => rfl); (try case hnd => decide); (try case eL => rfl); (try case eC => rfl); (case c1 => rfl); (case c2 => rfl); (case c3 => rfl); (try case c4 => decide); intros; (try simp only [mOf, List.foldl]); (first | (refine W.letE ?_; intro _ _ _) | (refine WX.letE ?_; intro _ _ _ _)))
  rename_i L cells O1 Y cF QnF QrF
  obtain ⟨o1, rfl, d1⟩ := CellsAre.one Y
  have d1 : o1.data = .cell (some (.ref way)) := d1
  (with_reducible refine W_consQ ?_; intro _ _ _; with_reducible refine W_assignN ?_; intro _; with_reducible refine W_IfExp ?_; intro _; with_reducible refine W_isTrue_Compare ?_; intro _; with_reducible refine W_Attribute ?_; intro _; with_reducible refine W_cell ?_; with_reducible refine W_getAttr ?_; with_reducible refine W_none ?_; with_reducible refine W_is_ref_none ?_; with_reducible refine W_truthy_bool ?_; with_reducible refine w_condf ?_; with_reducible refine W_Attribute ?_; intro _; with_reducible refine W_Attribute ?_; intro _; with_reducible refine W_cell ?_; with_reducible refine W_getAttr ?_; with_reducible refine W_getAttr ?_; with_reducible refine W_consQ ?_; intro _ _ _)
  refine' W_AssignComp ?hsw ?hyl ?hkc ?h1 ?h2 ?h3 ?h4 ?h5 ?_
  case hsw => rfl
  case hyl => rfl
  case hkc => rfl
  case h1 => rfl
  case h2 => decide
  case h3 => rfl
  case h4 => decide
  case h5 => rfl
  (with_reducible refine W_local ?_)
  refine W_iter_list (vs := refsE es) (e := e₀) (by k_extra "mm") fun it X1 hX1 => ?_
  refine ⟨(refsE es).length, _, _, _, it, X1, _, fun i ys m' H' => m' = upd (upd emp "choices" (.ref ch)) "entries" (.ref el) ∧ ys = refsE (actE (es.take i) fin nos) ∧ H' = (L + 1, o1) :: (((mp, instObj 151 dm) :: (dm, oM) :: (el, lstOf (refsE es) e₀) :: X) ++ ([(way, instObj 301 dw), (dw, oW), (tl, lstOf ts et)] ++ ([(ch, instObj 329 dc), (dc, oc)] ++ F))),
    ⟨rfl, It_list (vs := refsE es) (e := e₀), .rfl, hX1, by k_extra "mm", rfl, rfl, rfl⟩, Self_list, by simp only [sizeLine_eq, List.length_map]; omega, fun h => .tail _ (.tail _ h), ?_, ?_⟩
  · rintro i v ys m' H' X' D oC mc2 A' e' hi hyl ⟨hxi, hX'⟩ hneed ⟨rfl, rfl, rfl⟩ hC2 hm
    obtain ⟨e, he, rfl⟩ : ∃ e, es[i]? = some e ∧ Value.ref e.a = v := by simpa using hxi
    obtain ⟨mk', kv', tn', tv', n', q1, q2, q3, -⟩ := hX.at he
    have hst : actE (es.take (i + 1)) fin nos = actE (es.take i) fin nos ++ actE [e] fin nos := by
      unfold actE
      rw [List.take_add_one, he, List.filter_append]
      rfl
    with_reducible refine W_tests_one ?_
    (with_reducible refine W_and ?_; intro _; with_reducible refine W_isTrue_Compare ?_; intro _; with_reducible refine W_Subscript ?_; intro _; with_reducible refine W_cLocal ?_; with_reducible refine W_int ?_; intro _; with_reducible refine w_lstItem ?_; with_reducible refine W_Attribute ?_; intro _; with_reducible refine W_cCell ?_; with_reducible refine W_getAttr ?_; with_reducible refine W_lt ?_; with_reducible refine W_truthy_bool ?_)
    refine ⟨fun q => ?_, fun q => cond_f rfl ?_⟩
    · have q := of_decide_eq_true q
      (with_reducible refine W_and ?_; intro _; with_reducible refine W_isTrue_Compare ?_; intro _; with_reducible refine W_Subscript ?_; intro _; with_reducible refine W_cLocal ?_; with_reducible refine W_int ?_; intro _; with_reducible refine w_lstItem ?_; with_reducible refine W_Attribute ?_; intro _; with_reducible refine W_cCell ?_; with_reducible refine W_getAttr ?_)
      refine W_notinInts (by k_extra "mm") hts ?_
      rw [any_cast]
      (with_reducible refine W_truthy_bool ?_)
      refine ⟨fun q3 => ?_, fun q3 => ?_⟩
      · (with_reducible refine W_and_nil ?_; with_reducible refine w_condt ?_; with_reducible refine W_cLocal ?_)
        refine ⟨X', oC, mc2, _, ?_, hX', hC2, ?_, rfl, ?_, rfl⟩
        · k_extra "le"
        · k_extra "mm"
        · rw [hst, show actE [e] fin nos = [e] from ?_]
          · simp [refsE]
          · unfold actE
            rw [List.filter_cons_of_pos, List.filter_nil]
            rw [q3, Bool.and_true]
            exact decide_eq_true (by omega)
      · refine cond_f rfl ?_
        refine ⟨X', oC, mc2, _, ?_, hX', hC2, ?_, rfl, ?_, rfl⟩
        · k_extra "le"
        · k_extra "mm"
        · rw [hst, show actE [e] fin nos = [] from ?_, List.append_nil]
          unfold actE
          rw [List.filter_cons_of_neg, List.filter_nil]
          rw [q3, Bool.and_false]
          exact nofun
    · have q := of_decide_eq_false q
      refine ⟨X', oC, mc2, _, ?_, hX', hC2, ?_, rfl, ?_, rfl⟩
      · k_extra "le"
      · k_extra "mm"
      · rw [hst, show actE [e] fin nos = [] from ?_, List.append_nil]
        unfold actE
        rw [List.filter_cons_of_neg, List.filter_nil]
        rw [show decide (e.no < fin) = false from decide_eq_false (by omega), Bool.false_and]
        exact nofun
  · rintro ys m' H' A' e' hyl hneed ⟨rfl, rfl, rfl⟩
    rw [show es.take (refsE es).length = es by rw [List.length_map, List.take_length]]
    have hal : (actE es fin nos).length ≤ es.length := List.length_filter_le _ _
    have hsub : ∀ e ∈ actE es fin nos, e ∈ es := fun e he => (List.mem_filter.mp he).1
    generalize hact : actE es fin nos = act at *
    (with_reducible refine W_consQ ?_; intro _ _ _; with_reducible refine W_If ?_; intro _; with_reducible refine W_isTrue_Compare ?_; intro _; with_reducible refine W_local ?_; with_reducible refine W_List ?_; intro _; with_reducible refine W_items_nil ?_; with_reducible refine W_newList ?_; intro _)
    refine W_eqNil (n := n + 1) (by assumption) (.tail _ (.head _)) (.head _) ?_
    (with_reducible refine W_truthy_bool ?_)
    refine ⟨fun q => ?_, fun q => ?_⟩
    · have q : act = [] := by cases act with
        | nil => rfl
        | cons _ _ => exact absurd q nofun
      (with_reducible refine W_consQ ?_; intro _ _ _; with_reducible refine W_Return ?_; with_reducible refine W_none ?_)
      exact ⟨_, by k_extra "le", h1 q⟩
    · have q : act ≠ [] := by rintro rfl; exact absurd q nofun
      (with_reducible refine W_nil ?_; with_reducible refine W_consQ ?_; intro _ _ _; with_reducible refine W_assignN ?_; intro _; with_reducible refine W_Subscript ?_; intro _; with_reducible refine W_local ?_; with_reducible refine W_methL ?_; intro _; with_reducible refine W_items_cons ?_; intro _; with_reducible refine W_CallName ?_; intro _; with_reducible refine W_bltn ?_; with_reducible refine W_callB0 ?_; intro _; with_reducible refine W_itemsL ?_; intro _; with_reducible refine W_items_nil ?_)
      have hal1 : act.length ≠ 0 := fun z => q (List.length_eq_zero_iff.mp z)
      refine W_len (vs := refsE act) (by k_extra "mm") (fun t5 => ?_) (by rw [List.length_map]; omega)
      rw [List.length_map]
      (with_reducible refine W_items_nil ?_)
      refine sp_pick (n := n + 1) (many := act.length) (by assumption) (A := [(ch, instObj 329 dc), (dc, oc)]) (by k_extra "pk") hC (by k_extra "mm") hd h0 hz htk fun Cb' t6 hC' => ?_
      have hlt := pickN_lt (ds := ds) (tk := tk) h0 hal1
      obtain ⟨e, he⟩ : ∃ e, act[(pickN ds tk act.length).1]? = some e := ⟨_, List.getElem?_eq_getElem hlt⟩
      obtain ⟨j, hj⟩ := List.getElem?_of_mem (hsub e (List.mem_of_getElem? he))
      obtain ⟨mk', kv', tn', tv', n', q1, q2, q3, -⟩ := hX.at hj
      refine W_lstItem (vs := refsE act) (v := .ref e.a) (by k_extra "mm") (by omega) (by rw [Int.toNat_natCast, List.getElem?_map, he]; rfl) ?_ (by omega)
      (with_reducible refine W_consQ ?_; intro _ _ _; with_reducible refine W_Expr ?_; intro _; with_reducible refine W_Method ?_; intro _; with_reducible refine W_Attribute ?_; intro _; with_reducible refine W_cell ?_; with_reducible refine W_getAttr ?_; with_reducible refine W_getAppend ?_; with_reducible refine W_callB ?_; intro _; with_reducible refine W_items_cons ?_; intro _; with_reducible refine W_Subscript ?_; intro _; with_reducible refine W_local ?_; with_reducible refine W_int ?_; intro _; with_reducible refine w_lstItem ?_; with_reducible refine W_items_nil ?_)
      refine W_append (vs := ts) (by repeat (first | exact At.head | apply At.tail | (apply At.app))) ?_ (by have := hts.length; simp only [List.length_map] at this; simp only [sizeLine_eq]; omega)
      (with_reducible refine W_consQ ?_; intro _ _ _; with_reducible refine W_Return ?_; with_reducible refine W_Tuple ?_; intro _; with_reducible refine W_items_cons ?_; intro _; with_reducible refine W_Subscript ?_; intro _; with_reducible refine W_local ?_; with_reducible refine W_int ?_; intro _; with_reducible refine w_lstItem ?_; with_reducible refine W_items_cons ?_; intro _; with_reducible refine W_Subscript ?_; intro _; with_reducible refine W_local ?_; with_reducible refine W_int ?_; intro _; with_reducible refine w_lstItem ?_; with_reducible refine W_items_nil ?_; with_reducible refine W_newTuple ?_; intro _)
      refine ⟨_, ?_, h2 q e [(way, instObj 301 dw), (dw, oW), (tl, lstOf (ts ++ [.int e.no tn']) (et + 1))] Cb' _ kv' tv' he ⟨dw, oW, tw, tl, _, _, rfl, hf2, ?_⟩ hC' q3⟩
      · k_extra "le"
      · rw [List.map_append]
        exact hts.append (.cons _ _ .nil)
theorem sp_newStore {C : Cst} {c : Fc} {n : Nat} {m : Mp} {H : HL} (O : Ok C c (n + 3)) {f : Value} {Q : Value → Mp → HL → Prop} (h : ∀ st ds o ca rl ma, Flds (storeF f ca rl ma) 4 o → Q (.ref st) m ((st, instObj 275 ds) :: (ds, o) :: (rl, lstOf [] 0) :: (ma, lstOf [] 0) :: H)) :
    W C c m H (call (.ref 275) [f]) Q := by
  refine' W_newInst (n := n + 1) (f := 169) (binds := fun x => [("self", .ref x), ("may_compare", f)]) O ?hm ?hi ?hf ?ho ?hcd ?hb ?hl ?_ ?c1 ?c2 ?c3 ?c4
  ((try case hm => k_is); (try case hi => k_is); (try case hf => k_is); (case ho => k_is); (case hcd => k_is); (case hb => first | rfl | exact fun _ => rfl); (try case hl => first | rfl | exact fun _ => rfl); (try case hkd => rfl); (try case hnd => decide); (try case eL => rfl); (try case eC => rfl); (case c1 => rfl); (case c2 => rfl); (case c3 => rfl); (try case c4 => decide); intros; (try simp only [mOf, List.foldl]); (first | (refine W.letE ?_; intro _ _ _) | (refine WX.letE ?_; intro _ _ _ _)))
  rename_i x dx dp un outer A₀ base h₀ L O1 cF QnF QrF
  (with_reducible refine W_consQ ?_; intro _ _ _; with_reducible refine W_AssignAttr ?_; intro _; with_reducible refine W_local ?_; with_reducible refine W_local ?_)
  refine W_setAttr (f := emp) (k := 0) (g := fun o' => (x, instObj 275 dx) :: (dx, o') :: H) (by assumption) (plain275 C) (by k_extra "mm") (fun _ => .tail .head) Flds.new (by k_is) (by decide) fun o1 hf1 => ?_
  (with_reducible refine W_consQ ?_; intro _ _ _; with_reducible refine W_AssignAttr ?_; intro _; with_reducible refine W_List ?_; intro _; with_reducible refine W_items_nil ?_; with_reducible refine W_newList ?_; intro _; with_reducible refine W_local ?_)
  rename_i ca
  refine W_setAttr (k := 1) (g := fun o' => (ca, lstOf [] 0) :: (x, instObj 275 dx) :: (dx, o') :: H) (by assumption) (plain275 C) (by k_extra "mm") (fun _ => .tail (.tail .head)) hf1 (by k_is) (by decide) fun o2 hf2 => ?_
  (with_reducible refine W_consQ ?_; intro _ _ _; with_reducible refine W_AssignAttr ?_; intro _; with_reducible refine W_List ?_; intro _; with_reducible refine W_items_nil ?_; with_reducible refine W_newList ?_; intro _; with_reducible refine W_local ?_)
  rename_i rl
  refine W_setAttr (k := 2) (g := fun o' => (rl, lstOf [] 0) :: (ca, lstOf [] 0) :: (x, instObj 275 dx) :: (dx, o') :: H) (by assumption) (plain275 C) (by k_extra "mm") (fun _ => .tail (.tail (.tail .head))) hf2 (by k_is) (by decide) fun o3 hf3 => ?_
  (with_reducible refine W_consQ ?_; intro _ _ _; with_reducible refine W_AssignAttr ?_; intro _; with_reducible refine W_List ?_; intro _; with_reducible refine W_items_nil ?_; with_reducible refine W_newList ?_; intro _; with_reducible refine W_local ?_)
  rename_i ma
  refine W_setAttr (k := 3) (g := fun o' => (ma, lstOf [] 0) :: (rl, lstOf [] 0) :: (ca, lstOf [] 0) :: (x, instObj 275 dx) :: (dx, o') :: H) (by assumption) (plain275 C) (by k_extra "mm") (fun _ => .tail (.tail (.tail (.tail .head)))) hf3 (by k_is) (by decide) fun o4 hf4 => ?_
  (with_reducible refine W_nil ?_)
  refine ⟨_, ?_, h x dx o4 ca rl ma hf4⟩
  k_extra "le"
theorem sp_newPMap {C : Cst} {c : Fc} {n : Nat} {m : Mp} {H : HL} (O : Ok C c (n + 3)) {Q : Value → Mp → HL → Prop} (h : ∀ mp A, MpB mp [] 0 A [] → Q (.ref mp) m (A ++ H)) :
    W C c m H (call (.ref 151) []) Q := by
  refine' W_newInst (n := n + 1) (f := 129) (binds := fun x => [("self", .ref x)]) O ?hm ?hi ?hf ?ho ?hcd ?hb ?hl ?_ ?c1 ?c2 ?c3 ?c4
  ((try case hm => k_is); (try case hi => k_is); (try case hf => k_is); (case ho => k_is); (case hcd => k_is); (case hb => first | rfl | exact fun _ => rfl); (try case hl => first | rfl | exact fun _ => rfl); (try case hkd => rfl); (try case hnd => decide); (try case eL => rfl); (try case eC => rfl); (case c1 => rfl); (case c2 => rfl); (case c3 => rfl); (try case c4 => decide); intros; (try simp only [mOf, List.foldl]); (first | (refine W.letE ?_; intro _ _ _) | (refine WX.letE ?_; intro _ _ _ _)))
  rename_i x dx dp un outer A₀ base h₀ L O1 cF QnF QrF
  (with_reducible refine W_consQ ?_; intro _ _ _; with_reducible refine W_AssignAttr ?_; intro _; with_reducible refine W_List ?_; intro _; with_reducible refine W_items_nil ?_; with_reducible refine W_newList ?_; intro _; with_reducible refine W_local ?_)
  rename_i el
  refine W_setAttr (f := emp) (k := 0) (g := fun o' => (el, lstOf [] 0) :: (x, instObj 151 dx) :: (dx, o') :: H) (by assumption) (pl151 C) (by k_extra "mm") (fun _ => .tail (.tail .head)) Flds.new (by k_is) (by decide) fun o1 hf1 => ?_
  (with_reducible refine W_consQ ?_; intro _ _ _; with_reducible refine W_AssignAttr ?_; intro _; with_reducible refine W_int ?_; intro _; with_reducible refine W_local ?_)
  rename_i t
  refine W_setAttr (k := 1) (g := fun o' => (el, lstOf [] 0) :: (x, instObj 151 dx) :: (dx, o') :: H) (by assumption) (pl151 C) (by k_extra "mm") (fun _ => .tail (.tail .head)) hf1 (by k_is) (by decide) fun o2 hf2 => ?_
  (with_reducible refine W_nil ?_)
  refine ⟨(x, instObj 151 dx) :: (dx, o2) :: (el, lstOf (refsE []) 0) :: H, ?_, h x ((x, instObj 151 dx) :: (dx, o2) :: (el, lstOf (refsE []) 0) :: []) ⟨dx, o2, el, 0, t, [], rfl, hf2, .nil⟩⟩
  k_extra "le"
theorem sp_newChoices {C : Cst} {c : Fc} {n : Nat} {m : Mp} {H : HL} (O : Ok C c (n + 3)) {rw : Addr} {Q : Value → Mp → HL → Prop} (h : ∀ ch A, ChB ch rw 0 A → Q (.ref ch) m (A ++ H)) :
    W C c m H (call (.ref 329) [.ref rw]) Q := by
  refine' W_newInst (n := n + 1) (f := 319) (binds := fun x => [("self", .ref x), ("row", .ref rw)]) O ?hm ?hi ?hf ?ho ?hcd ?hb ?hl ?_ ?c1 ?c2 ?c3 ?c4
  ((try case hm => k_is); (try case hi => k_is); (try case hf => k_is); (case ho => k_is); (case hcd => k_is); (case hb => first | rfl | exact fun _ => rfl); (try case hl => first | rfl | exact fun _ => rfl); (try case hkd => rfl); (try case hnd => decide); (try case eL => rfl); (try case eC => rfl); (case c1 => rfl); (case c2 => rfl); (case c3 => rfl); (try case c4 => decide); intros; (try simp only [mOf, List.foldl]); (first | (refine W.letE ?_; intro _ _ _) | (refine WX.letE ?_; intro _ _ _ _)))
  rename_i x dx dp un outer A₀ base h₀ L O1 cF QnF QrF
  (with_reducible refine W_consQ ?_; intro _ _ _; with_reducible refine W_AssignAttr ?_; intro _; with_reducible refine W_local ?_; with_reducible refine W_local ?_)
  refine W_setAttr (f := emp) (k := 0) (g := fun o' => (x, instObj 329 dx) :: (dx, o') :: H) (by assumption) (pl329 C) (by k_extra "mm") (fun _ => .tail .head) Flds.new (by k_is) (by decide) fun o1 hf1 => ?_
  (with_reducible refine W_consQ ?_; intro _ _ _; with_reducible refine W_AssignAttr ?_; intro _; with_reducible refine W_int ?_; intro _; with_reducible refine W_local ?_)
  rename_i t
  refine W_setAttr (k := 1) (g := fun o' => (x, instObj 329 dx) :: (dx, o') :: H) (by assumption) (pl329 C) (by k_extra "mm") (fun _ => .tail .head) hf1 (by k_is) (by decide) fun o2 hf2 => ?_
  (with_reducible refine W_nil ?_)
  exact Dr.id (h x [(x, instObj 329 dx), (dx, o2)] ⟨dx, o2, t, rfl, hf2⟩)
theorem sp_newRound {C : Cst} {c : Fc} {n : Nat} {m : Mp} {H A F G : HL} (O : Ok C c (n + 3)) (hp : Pk A H F) {mp : Addr} {es : List Ent} {cm : Nat} {Q : Value → Mp → HL → Prop} (hM : MpB mp es cm A G) (h : ∀ way W', MrB way mp cm [] W' → Q (.ref way) m (W' ++ (A ++ F))) :
    W C c m H (call (.ref 301) [.ref mp]) Q := by
  refine W.le hp.le ?_
  obtain ⟨dm, oM, el, e₀, tn, X, hA, hf, hX⟩ := id hM
  subst hA
  refine' W_newInst (n := n + 1) (f := 293) (binds := fun x => [("self", .ref x), ("table", .ref mp)]) O ?hm ?hi ?hf ?ho ?hcd ?hb ?hl ?_ ?c1 ?c2 ?c3 ?c4
  ((try case hm => k_is); (try case hi => k_is); (try case hf => k_is); (case ho => k_is); (case hcd => k_is); (case hb => first | rfl | exact fun _ => rfl); (try case hl => first | rfl | exact fun _ => rfl); (try case hkd => rfl); (try case hnd => decide); (try case eL => rfl); (try case eC => rfl); (case c1 => rfl); (case c2 => rfl); (case c3 => rfl); (try case c4 => decide); intros; (try simp only [mOf, List.foldl]); (first | (refine W.letE ?_; intro _ _ _) | (refine WX.letE ?_; intro _ _ _ _)))
  rename_i x dx dp un outer A₀ base h₀ L O1 cF QnF QrF
  (with_reducible refine W_consQ ?_; intro _ _ _; with_reducible refine W_AssignAttr ?_; intro _; with_reducible refine W_local ?_; with_reducible refine W_local ?_)
  refine W_setAttr (f := emp) (k := 0) (g := fun o' => (x, instObj 301 dx) :: (dx, o') :: (((mp, instObj 151 dm) :: (dm, oM) :: (el, lstOf (refsE es) e₀) :: X) ++ F)) (by assumption) (pl301 C) (by k_extra "mm") (fun _ => .tail .head) Flds.new (by k_is) (by decide) fun o1 hf1 => ?_
  (with_reducible refine W_consQ ?_; intro _ _ _; with_reducible refine W_AssignAttr ?_; intro _; with_reducible refine W_IfExp ?_; intro _; with_reducible refine W_isNoneR ?_; with_reducible refine w_condf ?_; with_reducible refine W_attrL ?_; with_reducible refine W_local ?_)
  refine W_setAttr (k := 1) (g := fun o' => (x, instObj 301 dx) :: (dx, o') :: (((mp, instObj 151 dm) :: (dm, oM) :: (el, lstOf (refsE es) e₀) :: X) ++ F)) (by assumption) (pl301 C) (by k_extra "mm") (fun _ => .tail .head) hf1 (by k_is) (by decide) fun o2 hf2 => ?_
  (with_reducible refine W_consQ ?_; intro _ _ _; with_reducible refine W_AssignAttr ?_; intro _; with_reducible refine W_List ?_; intro _; with_reducible refine W_items_nil ?_; with_reducible refine W_newList ?_; intro _; with_reducible refine W_local ?_)
  rename_i tl
  refine W_setAttr (k := 2) (g := fun o' => (tl, lstOf [] 0) :: (x, instObj 301 dx) :: (dx, o') :: (((mp, instObj 151 dm) :: (dm, oM) :: (el, lstOf (refsE es) e₀) :: X) ++ F)) (by assumption) (pl301 C) (by k_extra "mm") (fun _ => .tail (.tail .head)) hf2 (by k_is) (by decide) fun o3 hf3 => ?_
  (with_reducible refine W_nil ?_)
  refine ⟨_, ?_, h x [(x, instObj 301 dx), (dx, o3), (tl, lstOf [] 0)] ⟨dx, o3, tn, tl, [], 0, rfl, hf3, .nil⟩⟩
  k_extra "le"
theorem sp_newMap {C : Cst} {c : Fc} {n : Nat} {m : Mp} {H F : HL} (O : Ok C c (n + 4)) {st ds mc ca rl ma : Addr} {o : Obj} {k e : Nat} (hp : Pk [(st, instObj 275 ds), (ds, o), (ma, lstOf [] e)] H F) (hf : Flds (storeF (.ref mc) ca rl ma) k o) {Q : Value → Mp → HL → Prop}
    (h : ∀ mp S A v ta t1 t2, SmB st mp S → MpB mp [] 0 A [] → v = .ref ta → Q v m ((ta, tupOf [.str "map" t1, .int 0 t2]) :: (S ++ (A ++ F)))) :
    W C c m H (call (.ref 244) [.ref st]) Q := by
  refine W.le hp.le ?_
  refine' W_def (n := n + 3) (binds := [("self", .ref st)]) O ?ho ?hcd ?hb ?hl ?_ ?c1 ?c2 ?c3 ?c4
  ((try case hm => k_is); (try case hi => k_is); (try case hf => k_is); (case ho => k_is); (case hcd => k_is); (case hb => first | rfl | exact fun _ => rfl); (try case hl => first | rfl | exact fun _ => rfl); (try case hkd => rfl); (try case hnd => decide); (try case eL => rfl); (try case eC => rfl); (case c1 => rfl); (case c2 => rfl); (case c3 => rfl); (try case c4 => decide); intros; (try simp only [mOf, List.foldl]); (first | (refine W.letE ?_; intro _ _ _) | (refine WX.letE ?_; intro _ _ _ _)))
  (with_reducible refine W_consQ ?_; intro _ _ _; with_reducible refine W_Expr ?_; intro _; with_reducible refine W_Method ?_; intro _; with_reducible refine W_attrL ?_; with_reducible refine W_getAppend ?_; with_reducible refine W_callB ?_; intro _; with_reducible refine W_items_cons ?_; intro _; with_reducible refine W_CallName ?_; intro _; with_reducible refine W_glob ?_; with_reducible refine W_callK0 ?_; intro _)
  refine sp_newPMap (n := n) (by assumption) fun mp A hM => ?_
  (with_reducible refine W_items_nil ?_)
  refine W_append (vs := []) (by repeat (first | exact At.head | apply At.tail | (apply At.app))) ?_ (by exact Nat.le_of_ble_eq_true rfl)
  (with_reducible refine W_consQ ?_; intro _ _ _; with_reducible refine W_Return ?_; with_reducible refine W_Tuple ?_; intro _; with_reducible refine W_items_cons ?_; intro _; with_reducible refine W_str ?_; intro _; with_reducible refine W_items_cons ?_; intro _; with_reducible refine W_BinOp ?_; intro _; with_reducible refine W_CallName ?_; intro _; with_reducible refine W_bltn ?_; with_reducible refine W_callB0 ?_; intro _; with_reducible refine W_items_cons ?_; intro _; with_reducible refine W_attrL ?_; with_reducible refine W_items_nil ?_)
  refine W_len (vs := [] ++ [.ref mp]) (by k_extra "mm") (fun t3 => ?_) (by show ((1 : Nat) : Int) < 2 ^ 63; decide)
  (with_reducible refine W_int ?_; intro _; with_reducible refine W_sub ?_; intro _; with_reducible refine W_items_nil ?_; with_reducible refine W_newTuple ?_; intro _)
  refine' ⟨_, ?le, h mp [(st, instObj 275 ds), (ds, o), (ma, lstOf [.ref mp] (e + 1))] A _ _ ?t1 ?t2 ⟨ds, o, mc, ca, rl, ma, k, e + 1, rfl, hf⟩ hM rfl⟩
  case le => k_extra "le"
inductive PrsAt (F : HL) : List Ent → List Value → Prop
  | nil : PrsAt F [] []
  | cons {e es p kv t ps} : (p, tupOf [kv, .int e.v t]) ∈ F → KeyV e.k kv F → PrsAt F es ps → PrsAt F (e :: es) (.ref p :: ps)
theorem PrsAt.len {F : HL} {es : List Ent} {ps : List Value} (h : PrsAt F es ps) : ps.length = es.length := by
  induction h with
  | nil => rfl
  | cons _ _ _ ih => simp [ih]
theorem PrsAt.at {F : HL} {es : List Ent} {ps : List Value} (h : PrsAt F es ps) : ∀ {i : Nat} {v : Value}, ps[i]? = some v → ∃ e p kv t, es[i]? = some e ∧ v = .ref p ∧ (p, tupOf [kv, .int e.v t]) ∈ F ∧ KeyV e.k kv F := by
  induction h with
  | nil => intro i v h; simp at h
  | @cons e es p kv t ps h1 h2 _ ih =>
    intro i v hi
    cases i with
    | zero => simp at hi; subst hi; exact ⟨e, p, kv, t, rfl, rfl, h1, h2⟩
    | succ i => simpa using ih (by simpa using hi)
theorem PrsAt.sub {F F' : HL} (s : TSub F F') {es : List Ent} {ps : List Value} (h : PrsAt F es ps) : PrsAt F' es ps := by
  induction h with
  | nil => exact .nil
  | cons h1 h2 _ ih => exact .cons (s _ _ h1) (h2.ts s) ih
theorem PrsAt.snoc {F : HL} {es : List Ent} {ps : List Value} (h : PrsAt F es ps) {e : Ent} {p : Addr} {kv : Value} {t : Tok} (h1 : (p, tupOf [kv, .int e.v t]) ∈ F) (h2 : KeyV e.k kv F) : PrsAt F (es ++ [e]) (ps ++ [.ref p]) := by
  induction h with
  | nil => exact .cons h1 h2 .nil
  | cons a b _ ih => exact .cons a b ih
noncomputable def prF (p : Ent → Bool) : List Ent → List Value → List Value
  | e :: es, v :: ps => if p e then v :: prF p es ps else prF p es ps
  | _, _ => []
theorem PrsAt.filter {F : HL} (p : Ent → Bool) {es : List Ent} {ps : List Value} (h : PrsAt F es ps) : PrsAt F (es.filter p) (prF p es ps) := by
  induction h with
  | nil => exact .nil
  | @cons e es q kv t ps h1 h2 _ ih =>
    cases z : p e with
    | true =>
      rw [List.filter_cons_of_pos z]
      show PrsAt F (e :: es.filter p) (if p e = true then _ else _)
      rw [if_pos z]
      exact .cons h1 h2 ih
    | false =>
      rw [List.filter_cons_of_neg (by simp [z])]
      show PrsAt F (es.filter p) (if p e = true then _ else _)
      rw [if_neg (by simp [z])]
      exact ih
theorem prF_step (p : Ent → Bool) : ∀ {es : List Ent} {ps : List Value} {i : Nat} {e : Ent} {v : Value}, es[i]? = some e → ps[i]? = some v → prF p (es.take (i + 1)) (ps.take (i + 1)) = prF p (es.take i) (ps.take i) ++ (if p e then [v] else [])
  | [], _, _, _, _, h, _ => by simp at h
  | _ :: _, [], _, _, _, _, h => by simp at h
  | a :: es, b :: ps, 0, e, v, h1, h2 => by
    simp at h1 h2
    subst h1 h2
    simp only [List.take_succ_cons, List.take_zero, prF, List.nil_append]
  | a :: es, b :: ps, i + 1, e, v, h1, h2 => by
    have ih := prF_step p (es := es) (ps := ps) (i := i) (e := e) (v := v) (by simpa using h1) (by simpa using h2)
    rw [List.take_succ_cons, List.take_succ_cons (i := i + 1), List.take_succ_cons (i := i), List.take_succ_cons (i := i)]
    show (if p a = true then b :: prF p (es.take (i + 1)) (ps.take (i + 1)) else prF p (es.take (i + 1)) (ps.take (i + 1))) = (if p a = true then b :: prF p (es.take i) (ps.take i) else prF p (es.take i) (ps.take i)) ++ _
    rw [ih]
    split <;> rfl
theorem prF_len (p : Ent → Bool) : ∀ (es : List Ent) (ps : List Value), es.length = ps.length → (prF p es ps).length = (es.filter p).length
  | [], [], _ => rfl
  | e :: es, v :: ps, h => by
    have ih := prF_len p es ps (by simpa using h)
    unfold prF
    by_cases z : p e = true
    · rw [if_pos z, List.filter_cons_of_pos z, List.length_cons, List.length_cons, ih]
    · rw [if_neg z, List.filter_cons_of_neg z, ih]
structure EsOk (es : List Ent) (cm : Nat) : Prop where
  kn : (es.map (·.k)).Nodup
  nn : (es.map (·.no)).Nodup
  lt : ∀ e ∈ es, e.no < cm
  vr : ∀ e ∈ es, 0 ≤ e.v ∧ e.v < 9
theorem nodup_inj {α β : Type} {f : α → β} : ∀ {l : List α}, (l.map f).Nodup → ∀ {x y : α}, x ∈ l → y ∈ l → f x = f y → x = y
  | [], _, _, _, hx, _, _ => nomatch hx
  | a :: l, h, x, y, hx, hy, e => by
    rw [List.map_cons] at h
    obtain ⟨h1, h2⟩ := List.nodup_cons.mp h
    rcases List.mem_cons.mp hx with q | q <;> rcases List.mem_cons.mp hy with z | z
    · rw [q, z]
    · exact absurd (List.mem_map.mpr ⟨y, z, by rw [← e, q]⟩) h1
    · exact absurd (List.mem_map.mpr ⟨x, q, by rw [e, z]⟩) h1
    · exact nodup_inj h2 q z e
theorem EsOk.filter {es : List Ent} {cm : Nat} (h : EsOk es cm) (p : Ent → Bool) : EsOk (es.filter p) cm :=
  ⟨(List.filter_sublist.map _).nodup h.kn, (List.filter_sublist.map _).nodup h.nn, fun e he => h.lt e (List.mem_filter.mp he).1, fun e he => h.vr e (List.mem_filter.mp he).1⟩
noncomputable def putE (es : List Ent) (k : Ky) (w : Int) : List Ent := es.map fun e => if e.k = k then ⟨e.a, e.no, e.k, w⟩ else e
theorem set_putE {es : List Ent} {cm i : Nat} {e : Ent} {k : Ky} {w : Int} (h : EsOk es cm) (hi : es[i]? = some e) (hk : e.k = k) : es.set i ⟨e.a, e.no, e.k, w⟩ = putE es k w := by
  refine List.ext_getElem? fun j => ?_
  unfold putE
  rw [List.getElem?_map]
  have hil := (List.getElem?_eq_some_iff.mp hi).1
  by_cases hj : i = j
  · subst hj
    rw [List.getElem?_set_self hil, hi]
    simp [hk]
  · rw [List.getElem?_set_ne hj]
    cases hjj : es[j]? with
    | none => rfl
    | some e' =>
      have hne : e'.k ≠ k := fun z => by
        have h1 : (es.map (·.k))[i]? = some k := by rw [List.getElem?_map, hi]; simp [hk]
        have h2 : (es.map (·.k))[j]? = some k := by rw [List.getElem?_map, hjj]; simp [z]
        exact hj ((List.getElem?_inj (by simpa using hil) h.kn).mp (h1.trans h2.symm))
      simp [hne]
theorem EsOk.put {es : List Ent} {cm : Nat} (h : EsOk es cm) {k : Ky} {w : Int} (h0 : 0 ≤ w) (h1 : w < 9) : EsOk (putE es k w) cm := by
  have e1 : (putE es k w).map (·.k) = es.map (·.k) := by
    unfold putE
    rw [List.map_map]
    exact List.map_congr_left fun e _ => by show (if e.k = k then _ else _ : Ent).k = e.k; split <;> rfl
  have e2 : (putE es k w).map (·.no) = es.map (·.no) := by
    unfold putE
    rw [List.map_map]
    exact List.map_congr_left fun e _ => by show (if e.k = k then _ else _ : Ent).no = e.no; split <;> rfl
  refine ⟨e1 ▸ h.kn, e2 ▸ h.nn, fun e he => ?_, fun e he => ?_⟩
  · obtain ⟨e', he', rfl⟩ := List.mem_map.mp he
    have := h.lt e' he'
    split <;> exact this
  · obtain ⟨e', he', rfl⟩ := List.mem_map.mp he
    have := h.vr e' he'
    split
    · exact ⟨h0, h1⟩
    · exact this
theorem EsOk.snoc {es : List Ent} {cm : Nat} (h : EsOk es cm) {a : Addr} {k : Ky} {w : Int} (hk : ∀ e ∈ es, e.k ≠ k) (h0 : 0 ≤ w) (h1 : w < 9) : EsOk (es ++ [⟨a, cm, k, w⟩]) (cm + 1) := by
  refine ⟨?_, ?_, fun e he => ?_, fun e he => ?_⟩
  · rw [List.map_append]
    refine List.nodup_append.mpr ⟨h.kn, by simp, fun x hx y hy => ?_⟩
    obtain ⟨e, he, rfl⟩ := List.mem_map.mp hx
    simp only [List.map_cons, List.map_nil, List.mem_singleton] at hy
    subst hy
    exact hk e he
  · rw [List.map_append]
    refine List.nodup_append.mpr ⟨h.nn, by simp, fun x hx y hy => ?_⟩
    obtain ⟨e, he, rfl⟩ := List.mem_map.mp hx
    simp only [List.map_cons, List.map_nil, List.mem_singleton] at hy
    subst hy
    exact Nat.ne_of_lt (h.lt e he)
  · rcases List.mem_append.mp he with q | q
    · exact Nat.lt_succ_of_lt (h.lt e q)
    · rw [List.mem_singleton.mp q]; exact Nat.lt_succ_self _
  · rcases List.mem_append.mp he with q | q
    · exact h.vr e q
    · rw [List.mem_singleton.mp q]; exact ⟨h0, h1⟩
theorem actE_told {es : List Ent} {cm fin : Nat} {nos : List Nat} {x : Ent} (h : EsOk es cm) (hx : x ∈ actE es fin nos) :
    actE es fin (nos ++ [x.no]) = (actE es fin nos).filter fun e => !(decide (e.k = x.k) && decide (e.v = x.v)) := by
  have hs : ∀ {e}, e ∈ actE es fin nos → e ∈ es := fun he => (List.mem_filter.mp he).1
  unfold actE at *
  rw [List.filter_filter]
  refine List.filter_congr fun e he => ?_
  have key : (e.no == x.no) = (decide (e.k = x.k) && decide (e.v = x.v)) := by
    rw [Bool.eq_iff_iff, beq_iff_eq, Bool.and_eq_true, decide_eq_true_eq, decide_eq_true_eq]
    constructor
    · intro z
      rw [nodup_inj h.nn he (hs hx) z]
      exact ⟨rfl, rfl⟩
    · intro z
      rw [nodup_inj h.kn he (hs hx) z.1]
  rw [List.any_append]
  simp only [List.any_cons, List.any_nil, Bool.or_false]
  rw [show (x.no == e.no) = (e.no == x.no) from BEq.comm, key]
  cases decide (e.no < fin) <;> cases (nos.any (· == e.no)) <;> cases (decide (e.k = x.k) && decide (e.v = x.v)) <;> rfl
theorem actE_snoc {es : List Ent} {fin : Nat} {nos : List Nat} {x : Ent} (hx : fin ≤ x.no) : actE (es ++ [x]) fin nos = actE es fin nos := by
  unfold actE
  rw [List.filter_append, List.filter_cons_of_neg, List.filter_nil, List.append_nil]
  rw [show decide (x.no < fin) = false from decide_eq_false (by omega), Bool.false_and]
  exact nofun
theorem actE_filter {es : List Ent} {fin : Nat} {nos : List Nat} {p : Ent → Bool} : actE (es.filter p) fin nos = (actE es fin nos).filter p := by
  unfold actE
  rw [List.filter_filter, List.filter_filter]
  exact List.filter_congr fun e _ => Bool.and_comm _ _
theorem actE_all {es : List Ent} {cm : Nat} (h : EsOk es cm) : actE es cm [] = es := by
  unfold actE
  rw [List.filter_eq_self]
  intro e he
  simp [h.lt e he]
theorem actE_less {es : List Ent} {cm fin : Nat} {nos : List Nat} {x : Ent} (h : EsOk es cm) (hx : x ∈ actE es fin nos) : (actE es fin (nos ++ [x.no])).length < (actE es fin nos).length := by
  rw [actE_told h hx]
  refine Nat.lt_of_le_of_ne (List.length_filter_le _ _) fun z => ?_
  have := (List.length_filter_eq_length_iff.mp z) x hx
  simp at this
theorem CellsAre.five {cm : Str → Option Value} {n₁ n₂ n₃ n₄ n₅ : Str} {c₁ c₂ c₃ c₄ c₅ : Addr} {cells : List (Addr × Obj)} (x : CellsAre cm [(n₁, c₁), (n₂, c₂), (n₃, c₃), (n₄, c₄), (n₅, c₅)] cells) :
    ∃ o₁ o₂ o₃ o₄ o₅, cells = [(c₁, o₁), (c₂, o₂), (c₃, o₃), (c₄, o₄), (c₅, o₅)] ∧ o₁.data = .cell (cm n₁) ∧ o₂.data = .cell (cm n₂) ∧ o₃.data = .cell (cm n₃) ∧ o₄.data = .cell (cm n₄) ∧ o₅.data = .cell (cm n₅) := by
  cases x with | cons h1 r =>
    obtain ⟨o₂, o₃, o₄, o₅, rfl, h2, h3, h4, h5⟩ := r.four
    exact ⟨_, o₂, o₃, o₄, o₅, rfl, h1, h2, h3, h4, h5⟩
noncomputable def TaG (ta : Addr) (G0 X : HL) : Prop := (∃ t1 t2, (ta, tupOf [.str "map" t1, .int 0 t2]) ∈ X) ∧ ∀ p ∈ G0, p ∈ X
theorem TaG.sub {ta : Addr} {G0 X X' : HL} (h : TaG ta G0 X) (s : ∀ p ∈ X, p ∈ X') : TaG ta G0 X' := by
  obtain ⟨⟨t1, t2, q⟩, z⟩ := h
  exact ⟨⟨t1, t2, s _ q⟩, fun p hp => s _ (z p hp)⟩
inductive MIH (G0 : HL) (ad1 ad2 ad3 ad4 ad5 : Addr) (src st mp pl ta : Addr) (es : List Ent) (cm i : Nat) (H' : HL) : Prop
  | mk (o : Obj) (o1 : Obj) (o2 : Obj) (o3 : Obj) (o4 : Obj) (o5 : Obj) (v1 : Option Value) (v2 : Option Value) (v3 : Option Value) (v4 : Option Value) (ps : List Value) (e : Nat) (A : HL) (S : HL) (X : HL) (q0 : IsSrc o) (q1 : o1.data = .cell v1) (q2 : o2.data = .cell v2) (q3 : o3.data = .cell v3) (q4 : o4.data = .cell v4) (q5 : o5.data = .cell (some (.ref src))) (q6 : MpB mp es cm A X) (q7 : SmB st mp S) (q8 : PrsAt X es ps) (q9 : TaG ta G0 X) (q10 : EsOk es cm) (q11 : es.length ≤ i) (q12 : (∀ e ∈ es, e.k ≠ .bn)) (q13 : H' = (src, o) :: (ad5, o1) :: (ad4, o2) :: (ad3, o3) :: (ad2, o4) :: (ad1, o5) :: (pl, lstOf ps e) :: (A ++ (S ++ X))) : MIH G0 ad1 ad2 ad3 ad4 ad5 src st mp pl ta es cm i H'
theorem filter_one {ka : Ky} : ∀ {es : List Ent} {e : Ent}, (es.map (·.k)).Nodup → e ∈ es → e.k = ka → es.filter (fun e => decide (e.k = ka)) = [e]
  | [], _, _, h, _ => nomatch h
  | a :: es, e, hn, he, hk => by
    rw [List.map_cons] at hn
    obtain ⟨h1, h2⟩ := List.nodup_cons.mp hn
    rcases List.mem_cons.mp he with z | z
    · subst z
      rw [List.filter_cons_of_pos (by simpa using hk), List.filter_eq_nil_iff.mpr]
      intro b hb
      have : b.k ≠ ka := fun q => h1 (List.mem_map.mpr ⟨b, hb, q.trans hk.symm⟩)
      simpa using this
    · have : a.k ≠ ka := fun q => h1 (List.mem_map.mpr ⟨e, z, hk.trans q.symm⟩)
      rw [List.filter_cons_of_neg (by simpa using this)]
      exact filter_one h2 z hk
theorem keys5 {X : HL} {si so : Addr} {t1 t2 t3 a b d : Tok} {v : Value} (hv : v ∈ [.int 0 a, .int 1 b, .bool true, .bytes [97].toArray d, .ref so]) (h1 : (so, tupOf [.str "struct" t1, .ref si]) ∈ X) (h2 : (si, tupOf [.int 1 t2, .bytes [97].toArray t3]) ∈ X) : ∃ kk : Ky, kk ≠ .bn ∧ KeyV kk v X := by
  rcases List.mem_cons.mp hv with rfl | hv
  · exact ⟨.i0, nofun, _, rfl⟩
  rcases List.mem_cons.mp hv with rfl | hv
  · exact ⟨.i1, nofun, _, rfl⟩
  rcases List.mem_cons.mp hv with rfl | hv
  · exact ⟨.tru, nofun, rfl⟩
  rcases List.mem_cons.mp hv with rfl | hv
  · exact ⟨.ba, nofun, _, rfl⟩
  rw [List.mem_singleton.mp hv]
  exact ⟨.st, nofun, so, si, _, _, _, rfl, h1, h2⟩
theorem keys6 {X : HL} {si so : Addr} {t1 t2 t3 a b d e : Tok} {v : Value} (hv : v ∈ [.int 0 a, .int 1 b, .bool true, .bytes [97].toArray d, .bytes [].toArray e, .ref so]) (h1 : (so, tupOf [.str "struct" t1, .ref si]) ∈ X) (h2 : (si, tupOf [.int 1 t2, .bytes [97].toArray t3]) ∈ X) : ∃ kk : Ky, KeyV kk v X := by
  rcases List.mem_cons.mp hv with rfl | hv
  · exact ⟨.i0, _, rfl⟩
  rcases List.mem_cons.mp hv with rfl | hv
  · exact ⟨.i1, _, rfl⟩
  rcases List.mem_cons.mp hv with rfl | hv
  · exact ⟨.tru, rfl⟩
  rcases List.mem_cons.mp hv with rfl | hv
  · exact ⟨.ba, _, rfl⟩
  rcases List.mem_cons.mp hv with rfl | hv
  · exact ⟨.be, _, rfl⟩
  rw [List.mem_singleton.mp hv]
  exact ⟨.st, so, si, _, _, _, rfl, h1, h2⟩
inductive MJ (G0 : HL) (ad1 ad2 ad3 ad4 ad5 : Addr) (st mp ta way tol ch rw : Addr) (fin : Nat) (dvs : List Value) (ed i b : Nat) (m' : Mp) (H' : HL) : Prop
  | mk (ll : Addr) (o1 : Obj) (v1 : Option Value) (ls : List Value) (e1 : Nat) (ts : List Value) (e2 : Nat) (A : HL) (S : HL) (Wb : HL) (Cb : HL) (X : HL) (es : List Ent) (cm : Nat) (nos : List Nat) (tk : Nat) (q0 : m' "store" = some (.ref st)) (q1 : m' "table" = some (.ref ta)) (q2 : m' "way" = some (.ref way)) (q3 : m' "told" = some (.ref tol)) (q4 : m' "choices" = some (.ref ch)) (q5 : m' "left" = some (.ref ll)) (q6 : m' "digits" = some (.ref rw)) (q7 : o1.data = .cell v1) (q8 : MpB mp es cm A X) (q9 : SmB st mp S) (q10 : MrB way mp fin nos Wb) (q11 : ChB ch rw tk Cb) (q12 : PrsAt X (actE es fin nos) ls) (q13 : ts.length = i) (q14 : nos.length = i) (q15 : ((actE es fin nos).length ≤ 1 ∨ tk = i)) (q16 : tk ≤ i) (q17 : EsOk es cm) (q18 : fin ≤ cm) (q19 : es.length + b ≤ 21 + i) (q20 : (i ≤ b → ∀ e ∈ es, e.k ≠ .bn)) (q21 : TaG ta G0 X) (q22 : H' = (ad5, o1) :: (ll, lstOf ls e1) :: (tol, lstOf ts e2) :: (rw, lstOf dvs ed) :: (A ++ (S ++ (Wb ++ (Cb ++ X))))) : MJ G0 ad1 ad2 ad3 ad4 ad5 st mp ta way tol ch rw fin dvs ed i b m' H'
theorem pick_one {ds : List Int} {tk N : Nat} (h : N ≤ 1) : (pickN ds tk N).1 = 0 := by unfold pickN; rw [if_pos h]
theorem pick_mod {ds : List Int} {tk N : Nat} {d : Int} (h : ¬ N ≤ 1) (hd : ds[tk]? = some d) (h0 : 0 ≤ d) : (((pickN ds tk N).1 : Nat) : Int) = d.fmod N := by
  unfold pickN
  rw [if_neg h, hd]
  exact Int.toNat_of_nonneg (fm0 (by omega))
theorem pick_none {ds : List Int} {tk N : Nat} (h : ¬ N ≤ 1) (hd : ds[tk]? = none) : (pickN ds tk N).1 = 0 := by unfold pickN; rw [if_neg h, hd]
theorem pick_snd {ds : List Int} {tk N : Nat} : (N ≤ 1 → (pickN ds tk N).2 = tk) ∧ (¬ N ≤ 1 → (pickN ds tk N).2 = tk + 1) := by
  constructor
  · intro h; unfold pickN; rw [if_pos h]
  · intro h; unfold pickN; rw [if_neg h]
theorem pyEq_self (k : Ky) : pyEq k.pv k.pv = true := by cases k <;> rfl
theorem keep_of {k k' : Ky} {v v' : Int} (q : (!(pyEq k.pv k'.pv && (v == v'))) = true) : (!(decide (k = k') && decide (v = v'))) = true := by
  by_cases z : k = k'
  · subst z
    rw [pyEq_self] at q
    simpa using q
  · simp [z]
theorem same_of {k k' : Ky} {v v' : Int} (q : (!(pyEq k.pv k'.pv && (v == v'))) = false) : v = v' := by
  simp at q
  exact q.2
theorem sp_lawMapRight {C : Cst} {c : Fc} {n : Nat} {m : Mp} {H F : HL} (O : Ok C c (n + 16)) {src : Addr} {o : Obj} {Q : Value → Mp → HL → Prop} (hp : Pk [(src, o), (408, tabObj #[])] H F) (ho : IsSrc o) (h : ∀ H' ps, (408, tabObj ps) ∈ H' → (∀ p ∈ F, p ∈ H') → Q (.bool true) m H') : W C c m H (call (.ref 411) [.ref src]) Q := by
  refine W.le hp.le ?_
  refine' W_defC (n := n + 15) (binds := [("source", .ref src)]) emp (upd emp "source" (.ref src)) O ?ho ?hcd ?hb ?hkd ?hnd ?eL ?eC ?_ ?c1 ?c2 ?c3
  case ho => k_is
  case hcd => k_is
  case hb => rfl
  case hkd => rfl
  case hnd => decide
  case eL => rfl
  case eC => rfl
  case c1 => rfl
  case c2 => rfl
  case c3 => rfl
  intro dp un outer A₀ base h₀ L cells O1 Y
  generalize hcl : cellsFrom (L + 1) _ [] = cl at O1 Y ⊢
  obtain ⟨ad5, ad4, ad3, ad2, ad1, rfl⟩ : ∃ ad5 ad4 ad3 ad2 ad1 : Addr, cl = [(Str.ofString "due", ad5), (Str.ofString "asked", ad4), (Str.ofString "number", ad3), (Str.ofString "key", ad2), (Str.ofString "source", ad1)] := ⟨_, _, _, _, _, hcl.symm.trans rfl⟩
  clear hcl
  refine W.letE ?_
  intro cF QnF QrF
  obtain ⟨o1, o2, o3, o4, o5, rfl, d1, d2, d3, d4, d5⟩ := CellsAre.five Y
  have d1 : o1.data = .cell none := d1
  have d2 : o2.data = .cell none := d2
  have d3 : o3.data = .cell none := d3
  have d4 : o4.data = .cell none := d4
  have d5 : o5.data = .cell (some (.ref src)) := d5
  refine W.le (H' := (src, o) :: (ad5, o1) :: (ad4, o2) :: (ad3, o3) :: (ad2, o4) :: (ad1, o5) :: (408, tabObj #[]) :: F) (by k_extra "le") ?_
  with_reducible refine W_cons ?_
  refine' W_AssignSwap ?_ ?hs1 ?hw1
  case hs1 => rfl
  case hw1 => rfl
  (with_reducible refine W_Tuple ?_; intro _; with_reducible refine W_items_cons ?_; intro _; with_reducible refine W_callG ?_; intro _; with_reducible refine W_items_cons ?_; intro _)
  refine W_lamNew (PT := 408) (ps := #[]) (g := fun o' => (src, o) :: (ad5, o1) :: (ad4, o2) :: (ad3, o3) :: (ad2, o4) :: (ad1, o5) :: (408, o') :: F) (by assumption) rfl (by kernel_rfl) (fun _ => .tail (.tail (.tail (.tail (.tail (.tail .head)))))) True.intro rfl rfl rfl fun f c' oc ctv pm hoc => ?_
  (with_reducible refine W_items_nil ?_)
  refine sp_newStore (n := n + 12) (by assumption) fun st ds oS ca rlS ma hfS => ?_
  (with_reducible refine W_items_cons ?_; intro _; with_reducible refine W_List ?_; intro _; with_reducible refine W_items_nil ?_; with_reducible refine W_newList ?_; intro _; with_reducible refine W_items_nil ?_; with_reducible refine W_newTuple ?_; intro _)
  rename_i pl tu
  refine ⟨_, _, rfl, .head _, rfl, ?_⟩
  refine W_swapCons ?_
  (with_reducible refine W_store ?_)
  refine W_swapCons ?_
  (with_reducible refine W_store ?_)
  refine W_swapNil ?_
  refine W.le (Le.rfl.drop) ?_
  (with_reducible refine W_consQ ?_; intro _ _ _; with_reducible refine W_assignN ?_; intro _; with_reducible refine W_Method ?_; intro _; with_reducible refine W_local ?_; with_reducible refine W_method ?_; with_reducible refine W_callK0 ?_; intro _)
  refine W.le (H' := [(st, instObj 275 ds), (ds, oS), (ma, lstOf [] 0)] ++ ((src, o) :: (ad5, o1) :: (ad4, o2) :: (ad3, o3) :: (ad2, o4) :: (ad1, o5) :: (pl, lstOf [] 0) :: (408, tabObj (#[] ++ #[rawInt 274, rawInt 31, .ref c'])) :: F)) (by k_extra "le") ?_
  generalize hG0 : (((408, tabObj (#[] ++ #[rawInt 274, rawInt 31, .ref c'])) :: F) : HL) = G0
  have h : ∀ H', (∀ p ∈ G0, p ∈ H') → Q (.bool true) m H' := fun H' z => by
    subst hG0
    exact h H' _ (z _ (List.Mem.head _)) fun p hp => z p (List.Mem.tail _ hp)
  refine sp_newMap (n := n + 11) (by assumption) Pk.head hfS fun mp S A tv ta t1 t2 hS hM htv => ?_
  subst htv
  with_reducible refine W_consQ ?_; intro _ _ _
  refine W_For ?_
  (with_reducible refine W_CallName ?_; intro _; with_reducible refine W_bltn ?_; with_reducible refine W_callT ?_; intro _; with_reducible refine W_items_cons ?_; intro _; with_reducible refine W_callG ?_; intro _; with_reducible refine W_items_cons ?_; intro _; with_reducible refine W_cell ?_; with_reducible refine W_itemsI ?_; intro _ _; with_reducible refine W_items_nil ?_)
  refine sp_takeP (n := n + 14) (by assumption) (by k_extra "pk") ho (by decide) (by decide) fun k tk o' ho' hk0 hk9 => ?_
  (with_reducible refine W_items_nil ?_)
  refine W_range (by omega) (by omega) fun it X1 hX1 => ?_
  refine ⟨k.toNat, _, _, _, it, X1, _, fun i m' H' => ∃ pl es cm, m' "store" = some (.ref st) ∧ m' "table" = some (.ref ta) ∧ m' "pairs" = some (.ref pl) ∧ MIH G0 ad1 ad2 ad3 ad4 ad5 src st mp pl ta es cm i H', ⟨rfl, It_range, ?le, hX1, trivial, pl, [], 0, by k_extra "lk", by k_extra "lk", by k_extra "lk", o', o1, o2, o3, o4, o5, none, none, none, none, [], 0, A, S, (ta, tupOf [.str "map" t1, .int 0 t2]) :: G0, ho', d1, d2, d3, d4, d5, hM.sub .nil, hS, .nil, ⟨⟨_, _, .head _⟩, fun p hp => .tail _ hp⟩, ⟨.nil, .nil, nofun, nofun⟩, Nat.zero_le _, nofun, rfl⟩, ?_, ?_⟩
  case le => k_extra "le"
  · rintro i0 v m' H' X' hlt ⟨⟨t, rfl⟩, hX'⟩ - ⟨pl, es, cm, m1, m2, m3, o, o1, o2, o3, o4, o5, v1, v2, v3, v4, ps, e, A, S, X, ho, d1, d2, d3, d4, d5, hM, hS, hP, hta, hE, hel, hbn, rfl⟩
    with_reducible refine W_ownedName ?_
    (with_reducible refine W_assignName ?_; with_reducible refine W_store ?_; with_reducible refine W_consQ ?_; intro _ _ _; with_reducible refine W_AssignTuple ?_; intro _; with_reducible refine W_Tuple ?_; intro _; with_reducible refine W_items_cons ?_; intro _; with_reducible refine W_callG ?_; intro _; with_reducible refine W_items_cons ?_; intro _; with_reducible refine W_cell ?_; with_reducible refine W_items_cons ?_; intro _; with_reducible refine W_List ?_; intro _; with_reducible refine W_itemsI ?_; intro _ _; with_reducible refine W_itemsI ?_; intro _ _; with_reducible refine W_items_cons ?_; intro _; with_reducible refine W_true ?_; with_reducible refine W_items_cons ?_; intro _; with_reducible refine W_bytes ?_; intro _; with_reducible refine W_items_cons ?_; intro _; with_reducible refine W_Tuple ?_; intro _; with_reducible refine W_items_cons ?_; intro _; with_reducible refine W_str ?_; intro _; with_reducible refine W_items_cons ?_; intro _; with_reducible refine W_Tuple ?_; intro _; with_reducible refine W_itemsI ?_; intro _ _; with_reducible refine W_items_cons ?_; intro _; with_reducible refine W_bytes ?_; intro _; with_reducible refine W_items_nil ?_; with_reducible refine W_newTuple ?_; intro _; with_reducible refine W_items_nil ?_; with_reducible refine W_newTuple ?_; intro _; with_reducible refine W_items_nil ?_; with_reducible refine W_newList ?_; intro _; with_reducible refine W_items_nil ?_)
    rename_i ta0 _ ta1 _ _ _ ta2 _ _ _ ta3 _ _ ta4 _ _ ta5 si so ll
    refine' sp_one (n := n + 13) (by assumption) ?pka ho ?mma ?nea ?lza fun j kv o6 hj ho6 => ?_
    case pka => k_extra "pk"
    case mma => k_extra "mm"
    case nea => exact nofun
    case lza => exact Nat.le_of_ble_eq_true rfl
    obtain ⟨kk, hkk, hkv⟩ := keys5 (X := (so, tupOf [.str "struct" ta3, .ref si]) :: (si, tupOf [.int 1 ta4, .bytes [97].toArray ta5]) :: X) (List.mem_of_getElem? hj) (.head _) (.tail _ (.head _))
    (with_reducible refine W_items_cons ?_; intro _; with_reducible refine W_callG ?_; intro _; with_reducible refine W_items_cons ?_; intro _; with_reducible refine W_cell ?_; with_reducible refine W_itemsI ?_; intro _ _; with_reducible refine W_items_nil ?_)
    refine sp_takeP (n := n + 14) (by assumption) (by k_extra "pk") ho6 (by decide) (by decide) fun w tw o7 ho7 hw0 hw9 => ?_
    (with_reducible refine W_items_nil ?_; with_reducible refine W_newTuple ?_; intro _; with_reducible refine W_unpack ?_; with_reducible refine W_eachName ?_)
    refine W_storeCP (o := o4) rfl (by k_extra "p1") d4 (fun o4' d4' => ?_)
    (with_reducible refine W_eachName ?_)
    refine W_storeCP (o := o3) rfl (by k_extra "p1") d3 (fun o3' d3' => ?_)
    (with_reducible refine W_eachNil ?_)
    have s1 : ∀ p ∈ X, p ∈ (so, tupOf [.str "struct" ta3, .ref si]) :: (si, tupOf [.int 1 ta4, .bytes [97].toArray ta5]) :: X := fun p hp => .tail _ (.tail _ hp)
    refine W.le (H' := X' ++ ((src, o7) :: (ad5, o1) :: (ad4, o2) :: (ad3, o3') :: (ad2, o4') :: (ad1, o5) :: (pl, lstOf ps e) :: (A ++ (S ++ ((so, tupOf [.str "struct" ta3, .ref si]) :: (si, tupOf [.int 1 ta4, .bytes [97].toArray ta5]) :: X))))) (by k_extra "le") ?_
    replace hM := hM.sub (.of s1)
    replace hP := hP.sub (.of s1)
    replace hta := hta.sub s1
    generalize ((so, tupOf [.str "struct" ta3, .ref si]) :: (si, tupOf [.int 1 ta4, .bytes [97].toArray ta5]) :: X) = X0 at *
    refine W_cutS (fun m1 H1 => ∃ pl es cm, m1 "store" = some (.ref st) ∧ m1 "table" = some (.ref ta) ∧ m1 "pairs" = some (.ref pl) ∧ ∃ H4, Le (X' ++ H4) H1 ∧ MIH G0 ad1 ad2 ad3 ad4 ad5 src st mp pl ta es cm (i0 + 1) H4) ?_ ?_
    · (with_reducible refine W_If ?_; intro _; with_reducible refine W_isTrue_Compare ?_; intro _; with_reducible refine W_callG ?_; intro _; with_reducible refine W_items_cons ?_; intro _; with_reducible refine W_cell ?_; with_reducible refine W_itemsI ?_; intro _ _; with_reducible refine W_items_nil ?_)
      refine sp_takeP (n := n + 14) (by assumption) (by k_extra "pk") ho7 (by decide) (by decide) fun w2 tw2 o8 ho8 hw20 hw23 => ?_
      (with_reducible refine W_int ?_; intro _; with_reducible refine W_eq ?_; with_reducible refine W_truthy_bool ?_)
      obtain ⟨ds, oS, mc, ca, rlS, ma, kS, eS, hSe, hfS⟩ := id hS
      subst hSe
      obtain ⟨⟨tm1, tm2, htm⟩, -⟩ := id hta
      refine ⟨fun q => ?_, fun q => ?_⟩
      · (with_reducible refine W_consQ ?_; intro _ _ _; with_reducible refine W_Expr ?_; intro _; with_reducible refine W_methL ?_; intro _; with_reducible refine W_itemsL ?_; intro _; with_reducible refine W_items_cons ?_; intro _; with_reducible refine W_cell ?_; with_reducible refine W_items_nil ?_)
        refine sp_dropKey (n := n + 9) (k := kk) (by assumption) (A := A) (G := X0) (by k_extra "pk") hM (fun p hp => by k_extra "mm") hS (fun p hp => by k_extra "mm") ⟨ta, tm1, tm2, rfl, by k_extra "mm"⟩ (hkv.sub fun p hp => by k_extra "mm") (by omega) fun A2 X2 hM2 => ?_
        (with_reducible refine W_consQ ?_; intro _ _ _)
        refine W.le (H' := X' ++ ((src, o8) :: (ad5, o1) :: (ad4, o2) :: (ad3, o3') :: (ad2, o4') :: (ad1, o5) :: (pl, lstOf ps e) :: (A2 ++ (([(st, instObj 275 ds), (ds, oS), (ma, lstOf [.ref mp] eS)]) ++ X0)))) (by k_extra "le") ?_
        generalize hB : (X' ++ ((src, o8) :: (ad5, o1) :: (ad4, o2) :: (ad3, o3') :: (ad2, o4') :: (ad1, o5) :: (pl, lstOf ps e) :: (A2 ++ (([(st, instObj 275 ds), (ds, oS), (ma, lstOf [.ref mp] eS)]) ++ X0))) : HL) = B
        have b1 : (pl, lstOf ps e) ∈ B := by rw [← hB]; k_extra "mm"
        have b2 : (ad2, o4') ∈ B := by rw [← hB]; k_extra "mm"
        have b3 : ∀ p ∈ X0, p ∈ B := fun p hp => by rw [← hB]; k_extra "mm"
        refine' W_AssignComp ?hswa ?hyla ?hkca ?h1a ?h2a ?h3a ?h4a ?h5a ?_
        case hswa => rfl
        case hyla => rfl
        case hkca => rfl
        case h1a => rfl
        case h2a => decide
        case h3a => rfl
        case h4a => decide
        case h5a => rfl
        (with_reducible refine W_local ?_)
        refine W_iter_list (vs := ps) (e := e) (by k_extra "mm") fun it2 X3 hX3 => ?_
        refine ⟨ps.length, _, _, _, it2, X3, _, fun i ys m2 H' => m2 = upd m' "turn" (.int i0 t) ∧ ys = prF (fun e => decide (e.k ≠ kk)) (es.take i) (ps.take i) ∧ H' = B,
          ⟨rfl, It_list (vs := ps) (e := e), .rfl, hX3, by k_extra "mm", rfl, rfl, rfl⟩, Self_list, by simp only [sizeLine_eq]; have := hP.len; omega, fun h => .tail _ (.tail _ h), ?_, ?_⟩
        · rintro i2 v2 ys m2 H2 X4 D oC mc2 A3 e3 hi2 hyl2 ⟨hxi, hX4⟩ hneed2 ⟨rfl, rfl, rfl⟩ hC2 hm2
          obtain ⟨en, p, kv2, tr, hen, rfl, hpm, hkv2⟩ := hP.at hxi
          have hpm := b3 _ hpm
          have hst := prF_step (fun e => decide (e.k ≠ kk)) hen hxi
          with_reducible refine W_tests_one ?_
          (with_reducible refine W_isTrue_Compare ?_; intro _; with_reducible refine W_CallName ?_; intro _; with_reducible refine W_cBltn ?_; with_reducible refine W_callB0 ?_; intro _; with_reducible refine W_items_cons ?_; intro _; with_reducible refine W_Subscript ?_; intro _; with_reducible refine W_cLocal ?_; with_reducible refine W_int ?_; intro _; with_reducible refine W_tupItem ?_; with_reducible refine W_items_nil ?_)
          refine W_reprKey (n := n + 14) (by assumption) (hkv2.sub fun p hp => List.mem_append_right _ (.tail _ (.tail _ (b3 p hp)))) fun t8 => ?_
          (with_reducible refine W_CallName ?_; intro _; with_reducible refine W_cBltn ?_; with_reducible refine W_callB0 ?_; intro _; with_reducible refine W_items_cons ?_; intro _; with_reducible refine W_cCell ?_; with_reducible refine W_items_nil ?_)
          refine W_reprKey (n := n + 14) (by assumption) (hkv.sub fun p hp => List.mem_append_right _ (.tail _ (.tail _ (b3 p hp)))) fun t9 => ?_
          (with_reducible refine W_neStr ?_; with_reducible refine W_truthy_bool ?_)
          rw [shown_inj]
          refine ⟨fun q2 => ?_, fun q2 => ?_⟩
          · have q2 : en.k ≠ kk := by simpa using q2
            (with_reducible refine W_cLocal ?_)
            refine ⟨X4, oC, mc2, _, ?_, hX4, hC2, ?_, rfl, ?_, rfl⟩
            · k_extra "le"
            · k_extra "mm"
            · rw [hst, if_pos (by simpa using q2)]
          · have q2 : en.k = kk := by simpa using q2
            refine ⟨X4, oC, mc2, _, ?_, hX4, hC2, ?_, rfl, ?_, rfl⟩
            · k_extra "le"
            · k_extra "mm"
            · rw [hst, if_neg (by simpa using q2), List.append_nil]
        · rintro ys m2 H2 A3 e3 hyl2 hneed2 ⟨rfl, rfl, rfl⟩
          subst hB
          (with_reducible refine W_nil ?_)
          rw [show es.take ps.length = es by rw [hP.len, List.take_length], List.take_length]
          refine ⟨A3, es.filter (fun e => decide (e.k ≠ kk)), cm, by k_extra "lk", by k_extra "lk", by k_extra "lk", _, ?_, o8, o1, o2, o3', o4', o5, v1, v2, _, _, _, e3, A2, ([(st, instObj 275 ds), (ds, oS), (ma, lstOf [.ref mp] eS)]), X0, ho8, d1, d2, d3', d4', d5, hM2, hS, hP.filter _, hta, hE.filter _, ?_, fun e he => hbn e (List.mem_filter.mp he).1, rfl⟩
          · k_extra "le"
          · exact Nat.le_trans (List.length_filter_le _ _) (Nat.le_succ_of_le hel)
      · refine W_cutS (fun m1 H1 => m1 = upd m' "turn" (.int i0 t) ∧ ∃ es2 cm2 A2 X2, MpB mp es2 cm2 A2 (X2 ++ X0) ∧ ((∃ e ∈ es, e.k = kk) ∧ es2 = putE es kk w ∧ cm2 = cm ∨ (∀ e ∈ es, e.k ≠ kk) ∧ ∃ a, es2 = es ++ [⟨a, cm, kk, w⟩] ∧ cm2 = cm + 1) ∧ Le (X' ++ ((src, o8) :: (ad5, o1) :: (ad4, o2) :: (ad3, o3') :: (ad2, o4') :: (ad1, o5) :: (pl, lstOf ps e) :: (A2 ++ (([(st, instObj 275 ds), (ds, oS), (ma, lstOf [.ref mp] eS)]) ++ (X2 ++ X0))))) H1) ?_ ?_
        · (with_reducible refine W_Expr ?_; intro _; with_reducible refine W_methL ?_; intro _; with_reducible refine W_itemsL ?_; intro _; with_reducible refine W_items_cons ?_; intro _; with_reducible refine W_cell ?_; with_reducible refine W_items_cons ?_; intro _; with_reducible refine W_cell ?_; with_reducible refine W_items_nil ?_)
          refine sp_putKey (n := n + 9) (k := kk) (by assumption) (A := A) (G := X0) (by k_extra "pk") hM (fun p hp => by k_extra "mm") hS (fun p hp => by k_extra "mm") ⟨ta, tm1, tm2, rfl, by k_extra "mm"⟩ hkv (by omega) (fun i e A2 X2 he hek hM2 => ?_) fun hno a A2 X2 hM2 => ?_
          · skip
            exact ⟨rfl, _, cm, A2, X2, hM2, .inl ⟨⟨e, List.mem_of_getElem? he, hek⟩, set_putE hE he hek, rfl⟩, by k_extra "le"⟩
          · skip
            exact ⟨rfl, _, cm + 1, A2, X2, hM2, .inr ⟨hno, a, rfl, rfl⟩, by k_extra "le"⟩
        rintro m1 H1 ⟨rfl, es2, cm2, A2, X2, hM2, hcase, hle⟩
        refine W.le hle ?_
        generalize hB : (X' ++ ((src, o8) :: (ad5, o1) :: (ad4, o2) :: (ad3, o3') :: (ad2, o4') :: (ad1, o5) :: (pl, lstOf ps e) :: (A2 ++ (([(st, instObj 275 ds), (ds, oS), (ma, lstOf [.ref mp] eS)]) ++ (X2 ++ X0)))) : HL) = B
        have b1 : (pl, lstOf ps e) ∈ B := by rw [← hB]; k_extra "mm"
        have b2 : (ad2, o4') ∈ B := by rw [← hB]; k_extra "mm"
        have b3 : ∀ p ∈ X0, p ∈ B := fun p hp => by rw [← hB]; k_extra "mm"
        have hPl := hP.len
        (with_reducible refine W_consQ ?_; intro _ _ _; with_reducible refine W_If ?_; intro _; with_reducible refine W_isTrue_Compare ?_; intro _)
        refine' W_ListComp ?h1b ?h2b ?h3b ?h4b ?h5b ?_
        case h1b => rfl
        case h2b => decide
        case h3b => rfl
        case h4b => decide
        case h5b => rfl
        (with_reducible refine W_local ?_)
        refine W_iter_list (vs := ps) (e := e) (by k_extra "mm") fun it2 X3 hX3 => ?_
        refine ⟨ps.length, _, _, _, it2, X3, _, fun i ys m2 H' => m2 = upd m' "turn" (.int i0 t) ∧ ys = prF (fun e => decide (e.k = kk)) (es.take i) (ps.take i) ∧ H' = B,
          ⟨rfl, It_list (vs := ps) (e := e), .rfl, hX3, by k_extra "mm", rfl, rfl, rfl⟩, Self_list, by simp only [sizeLine_eq]; omega, fun h => .tail _ (.tail _ h), ?_, ?_⟩
        · rintro i2 v2 ys m2 H2 X4 D oC mc2 A3 e3 hi2 hyl2 ⟨hxi, hX4⟩ hneed2 ⟨rfl, rfl, rfl⟩ hC2 hm2
          obtain ⟨en, p, kv2, tr, hen, rfl, hpm, hkv2⟩ := hP.at hxi
          have hpm := b3 _ hpm
          have hst := prF_step (fun e => decide (e.k = kk)) hen hxi
          with_reducible refine W_tests_one ?_
          (with_reducible refine W_isTrue_Compare ?_; intro _; with_reducible refine W_CallName ?_; intro _; with_reducible refine W_cBltn ?_; with_reducible refine W_callB0 ?_; intro _; with_reducible refine W_items_cons ?_; intro _; with_reducible refine W_Subscript ?_; intro _; with_reducible refine W_cLocal ?_; with_reducible refine W_int ?_; intro _; with_reducible refine W_tupItem ?_; with_reducible refine W_items_nil ?_)
          refine W_reprKey (n := n + 14) (by assumption) (hkv2.sub fun p hp => List.mem_append_right _ (.tail _ (.tail _ (b3 p hp)))) fun t8 => ?_
          (with_reducible refine W_CallName ?_; intro _; with_reducible refine W_cBltn ?_; with_reducible refine W_callB0 ?_; intro _; with_reducible refine W_items_cons ?_; intro _; with_reducible refine W_cCell ?_; with_reducible refine W_items_nil ?_)
          refine W_reprKey (n := n + 14) (by assumption) (hkv.sub fun p hp => List.mem_append_right _ (.tail _ (.tail _ (b3 p hp)))) fun t9 => ?_
          (with_reducible refine W_eqStr ?_; with_reducible refine W_truthy_bool ?_)
          rw [shown_inj]
          refine ⟨fun q2 => ?_, fun q2 => ?_⟩
          · have q2 : en.k = kk := by simpa using q2
            (with_reducible refine W_cLocal ?_)
            refine ⟨X4, oC, mc2, _, ?_, hX4, hC2, ?_, rfl, ?_, rfl⟩
            · k_extra "le"
            · k_extra "mm"
            · rw [hst, if_pos (by simpa using q2)]
          · have q2 : en.k ≠ kk := by simpa using q2
            refine ⟨X4, oC, mc2, _, ?_, hX4, hC2, ?_, rfl, ?_, rfl⟩
            · k_extra "le"
            · k_extra "mm"
            · rw [hst, if_neg (by simpa using q2), List.append_nil]
        rintro ys m2 H2 A3 e3 hyl2 hneed2 ⟨rfl, rfl, rfl⟩
        subst hB
        rw [show es.take ps.length = es by rw [hPl, List.take_length], List.take_length]
        have hpl2 := prF_len (fun e => decide (e.k = kk)) es ps hPl.symm
        generalize prF (fun e => decide (e.k = kk)) es ps = zs at *
        (with_reducible refine W_List ?_; intro _; with_reducible refine W_items_nil ?_; with_reducible refine W_newList ?_; intro _)
        refine W_neNil (n := n + 14) (by assumption) (.tail _ (.head _)) (.head _) ?_
        (with_reducible refine W_truthy_bool ?_)
        refine ⟨fun q2 => ?_, fun q2 => ?_⟩
        · have q2 : zs.length ≠ 0 := fun z => by rw [List.length_eq_zero_iff.mp z] at q2; exact absurd q2 nofun
          rcases hcase with ⟨-, rfl, rfl⟩ | ⟨hno, -⟩
          · refine W.le (H' := X' ++ ((src, o8) :: (ad5, o1) :: (ad4, o2) :: (ad3, o3') :: (ad2, o4') :: (ad1, o5) :: (pl, lstOf ps e) :: (A2 ++ (([(st, instObj 275 ds), (ds, oS), (ma, lstOf [.ref mp] eS)]) ++ (X2 ++ X0))))) (by k_extra "le") ?_
            generalize hB : (X' ++ ((src, o8) :: (ad5, o1) :: (ad4, o2) :: (ad3, o3') :: (ad2, o4') :: (ad1, o5) :: (pl, lstOf ps e) :: (A2 ++ (([(st, instObj 275 ds), (ds, oS), (ma, lstOf [.ref mp] eS)]) ++ (X2 ++ X0)))) : HL) = B
            have b1 : (pl, lstOf ps e) ∈ B := by rw [← hB]; k_extra "mm"
            have b2 : (ad2, o4') ∈ B := by rw [← hB]; k_extra "mm"
            have b4 : (ad3, o3') ∈ B := by rw [← hB]; k_extra "mm"
            have b3 : ∀ p ∈ X0, p ∈ B := fun p hp => by rw [← hB]; k_extra "mm"
            with_reducible refine W_consQ ?_; intro _ _ _
            refine' W_AssignComp ?hswc ?hylc ?hkcc ?h1c ?h2c ?h3c ?h4c ?h5c ?_
            case hswc => rfl
            case hylc => rfl
            case hkcc => rfl
            case h1c => rfl
            case h2c => decide
            case h3c => rfl
            case h4c => decide
            case h5c => rfl
            (with_reducible refine W_local ?_)
            refine W_iter_list (vs := ps) (e := e) (by k_extra "mm") fun it2 X3 hX3 => ?_
            refine ⟨ps.length, _, _, _, it2, X3, _, fun i ys m2 H' => m2 = upd m' "turn" (.int i0 t) ∧ ys.length = i ∧ ∃ X5, PrsAt (X5 ++ (X2 ++ X0)) (putE (es.take i) kk w) ys ∧ H' = X5 ++ B,
              ⟨rfl, It_list (vs := ps) (e := e), .rfl, hX3, by k_extra "mm", rfl, rfl, [], .nil, rfl⟩, Self_list, by simp only [sizeLine_eq]; omega, fun h => .tail _ (.tail _ h), ?_, ?_⟩
            · rintro i2 v2 ys m2 H2 X4 D oC mc2 A3 e3 hi2 hyl2 ⟨hxi, hX4⟩ hneed2 ⟨rfl, hyi, X5, hP5, rfl⟩ hC2 hm2
              obtain ⟨en, p, kv2, tr, hen, rfl, hpm, hkv2⟩ := hP.at hxi
              have hpm := b3 _ hpm
              have hst : putE (es.take (i2 + 1)) kk w = putE (es.take i2) kk w ++ [if en.k = kk then ⟨en.a, en.no, en.k, w⟩ else en] := by
                unfold putE
                rw [List.take_add_one, hen, List.map_append]
                rfl
              refine W_tests_nil ⟨fun _ => ?_, fun q => nomatch q⟩
              (with_reducible refine W_Tuple ?_; intro _; with_reducible refine W_items_cons ?_; intro _; with_reducible refine W_Subscript ?_; intro _; with_reducible refine W_cLocal ?_; with_reducible refine W_int ?_; intro _; with_reducible refine W_tupItem ?_; with_reducible refine W_items_cons ?_; intro _; with_reducible refine W_IfExp ?_; intro _; with_reducible refine W_isTrue_Compare ?_; intro _; with_reducible refine W_CallName ?_; intro _; with_reducible refine W_cBltn ?_; with_reducible refine W_callB0 ?_; intro _; with_reducible refine W_items_cons ?_; intro _; with_reducible refine W_Subscript ?_; intro _; with_reducible refine W_cLocal ?_; with_reducible refine W_int ?_; intro _; with_reducible refine W_tupItem ?_; with_reducible refine W_items_nil ?_)
              refine W_reprKey (n := n + 14) (by assumption) (hkv2.sub fun p hp => List.mem_append_right _ (.tail _ (.tail _ (List.mem_append_right _ (b3 p hp))))) fun t8 => ?_
              (with_reducible refine W_CallName ?_; intro _; with_reducible refine W_cBltn ?_; with_reducible refine W_callB0 ?_; intro _; with_reducible refine W_items_cons ?_; intro _; with_reducible refine W_cCell ?_; with_reducible refine W_items_nil ?_)
              refine W_reprKey (n := n + 14) (by assumption) (hkv.sub fun p hp => List.mem_append_right _ (.tail _ (.tail _ (List.mem_append_right _ (b3 p hp))))) fun t9 => ?_
              (with_reducible refine W_eqStr ?_; with_reducible refine W_truthy_bool ?_)
              rw [shown_inj]
              refine ⟨fun q2 => ?_, fun q2 => ?_⟩
              · have q2 : en.k = kk := by simpa using q2
                (with_reducible refine W_cCell ?_; with_reducible refine W_items_nil ?_; with_reducible refine W_newTuple ?_; intro _)
                rename_i ar
                refine ⟨X4, oC, mc2, ((ar, _) :: X5) ++ _, ?_, hX4, hC2, ?_, rfl, by simp [hyi], (ar, tupOf [kv2, .int w tw]) :: X5, ?_, rfl⟩
                · k_extra "le"
                · k_extra "mm"
                · rw [hst, if_pos q2]
                  exact (hP5.sub (.of fun p hp => .tail _ hp)).snoc (e := ⟨en.a, en.no, en.k, w⟩) (.head _) (hkv2.sub fun p hp => .tail _ (List.mem_append_right _ (List.mem_append_right _ hp)))
              · have q2 : en.k ≠ kk := by simpa using q2
                (with_reducible refine W_Subscript ?_; intro _; with_reducible refine W_cLocal ?_; with_reducible refine W_int ?_; intro _; with_reducible refine W_tupItem ?_; with_reducible refine W_items_nil ?_; with_reducible refine W_newTuple ?_; intro _)
                rename_i ar
                refine ⟨X4, oC, mc2, ((ar, _) :: X5) ++ _, ?_, hX4, hC2, ?_, rfl, by simp [hyi], (ar, tupOf [kv2, .int en.v tr]) :: X5, ?_, rfl⟩
                · k_extra "le"
                · k_extra "mm"
                · rw [hst, if_neg q2]
                  exact (hP5.sub (.of fun p hp => .tail _ hp)).snoc (e := en) (.head _) (hkv2.sub fun p hp => .tail _ (List.mem_append_right _ (List.mem_append_right _ hp)))
            · rintro ys m2 H2 A3 e3 hyl2 hneed2 ⟨rfl, hyi, X5, hP5, rfl⟩
              subst hB
              rw [show es.take ps.length = es by rw [hPl, List.take_length]] at hP5
              (with_reducible refine W_nil ?_; with_reducible refine W_nil ?_)
              have s5 : ∀ p ∈ X2 ++ X0, p ∈ X5 ++ (X2 ++ X0) := fun p hp => List.mem_append_right _ hp
              refine ⟨A3, putE es kk w, cm2, by k_extra "lk", by k_extra "lk", by k_extra "lk", _, ?_, o8, o1, o2, o3', o4', o5, v1, v2, _, _, _, e3, A2, ([(st, instObj 275 ds), (ds, oS), (ma, lstOf [.ref mp] eS)]), X5 ++ (X2 ++ X0), ho8, d1, d2, d3', d4', d5, hM2.sub (.of s5), hS, hP5, hta.sub fun p hp => s5 _ (List.mem_append_right _ hp), hE.put hw0 hw9, ?_, ?_, rfl⟩
              · k_extra "le"
              · unfold putE; rw [List.length_map]; exact Nat.le_succ_of_le hel
              · intro e he
                obtain ⟨e', he', rfl⟩ := List.mem_map.mp he
                have := hbn e' he'
                split <;> exact this
          · refine absurd ?_ q2
            rw [hpl2]
            exact List.length_eq_zero_iff.mpr (List.filter_eq_nil_iff.mpr fun e he => by simpa using hno e he)
        · have q2 : zs = [] := by
            cases zs with
            | nil => rfl
            | cons _ _ => exact absurd q2 nofun
          subst q2
          rcases hcase with ⟨⟨e5, he5, hk5⟩, -, -⟩ | ⟨hno, a5, rfl, rfl⟩
          · have : e5 ∈ es.filter (fun e => decide (e.k = kk)) := List.mem_filter.mpr ⟨he5, by simpa using hk5⟩
            rw [List.length_eq_zero_iff.mp hpl2.symm] at this
            exact absurd this nofun
          · refine W.le (H' := X' ++ ((src, o8) :: (ad5, o1) :: (ad4, o2) :: (ad3, o3') :: (ad2, o4') :: (ad1, o5) :: (pl, lstOf ps e) :: (A2 ++ (([(st, instObj 275 ds), (ds, oS), (ma, lstOf [.ref mp] eS)]) ++ (X2 ++ X0))))) (by k_extra "le") ?_
            (with_reducible refine W_consQ ?_; intro _ _ _; with_reducible refine W_Expr ?_; intro _; with_reducible refine W_Method ?_; intro _; with_reducible refine W_local ?_; with_reducible refine W_getAppend ?_; with_reducible refine W_callB ?_; intro _; with_reducible refine W_items_cons ?_; intro _; with_reducible refine W_Tuple ?_; intro _; with_reducible refine W_items_cons ?_; intro _; with_reducible refine W_cell ?_; with_reducible refine W_items_cons ?_; intro _; with_reducible refine W_cell ?_; with_reducible refine W_items_nil ?_; with_reducible refine W_newTuple ?_; intro _; with_reducible refine W_items_nil ?_)
            rename_i ar
            refine W_append (vs := ps) (by repeat (first | exact At.head | apply At.tail | (apply At.app))) ?_ (by simp only [sizeLine_eq]; omega)
            (with_reducible refine W_nil ?_; with_reducible refine W_nil ?_)
            refine ⟨pl, _, cm + 1, by k_extra "lk", by k_extra "lk", by k_extra "lk", _, ?_, o8, o1, o2, o3', o4', o5, v1, v2, _, _, ps ++ [.ref ar], e + 1, A2, ([(st, instObj 275 ds), (ds, oS), (ma, lstOf [.ref mp] eS)]), (ar, tupOf [kv, .int w tw]) :: (X2 ++ X0), ho8, d1, d2, d3', d4', d5, hM2.sub (.of fun p hp => .tail _ hp), hS, (hP.sub (.of fun p hp => .tail _ (List.mem_append_right _ hp))).snoc (e := ⟨a5, cm, kk, w⟩) (.head _) (hkv.sub fun p hp => .tail _ (List.mem_append_right _ hp)), hta.sub fun p hp => .tail _ (List.mem_append_right _ hp), hE.snoc hno hw0 hw9, ?_, ?_, rfl⟩
            · k_extra "le"
            · rw [List.length_append, List.length_singleton]; omega
            · intro e he
              rcases List.mem_append.mp he with z | z
              · exact hbn e z
              · rw [List.mem_singleton.mp z]; exact hkk
    · rintro mA H1 ⟨pl, es, cm, m1, m2, m3, H4, hle, o, o1, o2, o3, o4, o5, v1, v2, v3, v4, ps, e, A, S, X, ho, d1, d2, d3, d4, d5, hM, hS, hP, hta, hE, hel, hbn, rfl⟩
      refine W.le hle ?_
      (with_reducible refine W_consQ ?_; intro _ _ _; with_reducible refine W_Assign ?_; intro _; with_reducible refine W_callG ?_; intro _; with_reducible refine W_items_cons ?_; intro _; with_reducible refine W_cell ?_; with_reducible refine W_items_cons ?_; intro _; with_reducible refine W_List ?_; intro _; with_reducible refine W_itemsI ?_; intro _ _; with_reducible refine W_itemsI ?_; intro _ _; with_reducible refine W_items_cons ?_; intro _; with_reducible refine W_true ?_; with_reducible refine W_items_cons ?_; intro _; with_reducible refine W_bytes ?_; intro _; with_reducible refine W_items_cons ?_; intro _; with_reducible refine W_bytes ?_; intro _; with_reducible refine W_items_cons ?_; intro _; with_reducible refine W_Tuple ?_; intro _; with_reducible refine W_items_cons ?_; intro _; with_reducible refine W_str ?_; intro _; with_reducible refine W_items_cons ?_; intro _; with_reducible refine W_Tuple ?_; intro _; with_reducible refine W_itemsI ?_; intro _ _; with_reducible refine W_items_cons ?_; intro _; with_reducible refine W_bytes ?_; intro _; with_reducible refine W_items_nil ?_; with_reducible refine W_newTuple ?_; intro _; with_reducible refine W_items_nil ?_; with_reducible refine W_newTuple ?_; intro _; with_reducible refine W_items_nil ?_; with_reducible refine W_newList ?_; intro _; with_reducible refine W_items_nil ?_)
      rename_i tb0 _ tb1 _ _ _ tb2 _ tb3 _ _ _ tb4 _ _ tb5 _ _ tb6 si2 so2 ll2
      refine' sp_one (n := n + 13) (by assumption) ?pkb ho ?mmb ?neb ?lzb fun j av o6 hj ho6 => ?_
      case pkb => k_extra "pk"
      case mmb => k_extra "mm"
      case neb => exact nofun
      case lzb => exact Nat.le_of_ble_eq_true rfl
      obtain ⟨ka, hav⟩ := keys6 (X := (so2, tupOf [.str "struct" tb4, .ref si2]) :: (si2, tupOf [.int 1 tb5, .bytes [97].toArray tb6]) :: X) (List.mem_of_getElem? hj) (.head _) (.tail _ (.head _))
      skip
      refine W_storeCP (o := o2) rfl (by k_extra "p1") d2 (fun o2' d2' => ?_)
      (with_reducible refine W_consQ ?_; intro _ _ _)
      have s1 : ∀ p ∈ X, p ∈ ((so2, tupOf [.str "struct" tb4, .ref si2]) :: (si2, tupOf [.int 1 tb5, .bytes [97].toArray tb6]) :: X) := fun p hp => .tail _ (.tail _ hp)
      refine W.le (H' := X' ++ ((src, o6) :: (ad5, o1) :: (ad4, o2') :: (ad3, o3) :: (ad2, o4) :: (ad1, o5) :: (pl, lstOf ps e) :: (A ++ (S ++ ((so2, tupOf [.str "struct" tb4, .ref si2]) :: (si2, tupOf [.int 1 tb5, .bytes [97].toArray tb6]) :: X))))) (by k_extra "le") ?_
      replace hM := hM.sub (.of s1)
      replace hP := hP.sub (.of s1)
      replace hta := hta.sub s1
      generalize ((so2, tupOf [.str "struct" tb4, .ref si2]) :: (si2, tupOf [.int 1 tb5, .bytes [97].toArray tb6]) :: X) = X0 at *
      obtain ⟨ds, oS, mc, ca, rlS, ma, kS, eS, hSe, hfS⟩ := id hS
      subst hSe
      obtain ⟨⟨tm1, tm2, htm⟩, -⟩ := id hta
      have hPl := hP.len
      generalize hB : (X' ++ ((src, o6) :: (ad5, o1) :: (ad4, o2') :: (ad3, o3) :: (ad2, o4) :: (ad1, o5) :: (pl, lstOf ps e) :: (A ++ (([(st, instObj 275 ds), (ds, oS), (ma, lstOf [.ref mp] eS)]) ++ X0))) : HL) = B
      have b1 : (pl, lstOf ps e) ∈ B := by rw [← hB]; k_extra "mm"
      have b2 : (ad4, o2') ∈ B := by rw [← hB]; k_extra "mm"
      have b3 : ∀ p ∈ X0, p ∈ B := fun p hp => by rw [← hB]; k_extra "mm"
      (with_reducible refine W_Assign ?_; intro _)
      refine' W_ListComp ?h1d ?h2d ?h3d ?h4d ?h5d ?_
      case h1d => rfl
      case h2d => decide
      case h3d => rfl
      case h4d => decide
      case h5d => rfl
      (with_reducible refine W_local ?_)
      refine W_iter_list (vs := ps) (e := e) (by k_extra "mm") fun it2 X3 hX3 => ?_
      refine ⟨ps.length, _, _, _, it2, X3, _, fun i ys m2 H' => m2 = mA ∧ IntsAre ys (((es.take i).filter (fun e => decide (e.k = ka))).map (·.v)) ∧ H' = B,
        ⟨rfl, It_list (vs := ps) (e := e), .rfl, hX3, by k_extra "mm", rfl, .nil, rfl⟩, Self_list, by simp only [sizeLine_eq]; omega, fun h => .tail _ (.tail _ h), ?_, ?_⟩
      · rintro i2 v2 ys m2 H2 X4 D oC mc2 A3 e3 hi2 hyl2 ⟨hxi, hX4⟩ hneed2 ⟨rfl, hys, rfl⟩ hC2 hm2
        obtain ⟨en, p, kv2, tr, hen, rfl, hpm, hkv2⟩ := hP.at hxi
        have hpm := b3 _ hpm
        have hst : ((es.take (i2 + 1)).filter (fun e => decide (e.k = ka))).map (·.v) = ((es.take i2).filter (fun e => decide (e.k = ka))).map (·.v) ++ ([en].filter (fun e => decide (e.k = ka))).map (·.v) := by
          rw [List.take_add_one, hen, List.filter_append, List.map_append]
          rfl
        with_reducible refine W_tests_one ?_
        (with_reducible refine W_isTrue_Compare ?_; intro _; with_reducible refine W_CallName ?_; intro _; with_reducible refine W_cBltn ?_; with_reducible refine W_callB0 ?_; intro _; with_reducible refine W_items_cons ?_; intro _; with_reducible refine W_Subscript ?_; intro _; with_reducible refine W_cLocal ?_; with_reducible refine W_int ?_; intro _; with_reducible refine W_tupItem ?_; with_reducible refine W_items_nil ?_)
        refine W_reprKey (n := n + 14) (by assumption) (hkv2.sub fun p hp => List.mem_append_right _ (.tail _ (.tail _ (b3 p hp)))) fun t8 => ?_
        (with_reducible refine W_CallName ?_; intro _; with_reducible refine W_cBltn ?_; with_reducible refine W_callB0 ?_; intro _; with_reducible refine W_items_cons ?_; intro _; with_reducible refine W_cCell ?_; with_reducible refine W_items_nil ?_)
        refine W_reprKey (n := n + 14) (by assumption) (hav.sub fun p hp => List.mem_append_right _ (.tail _ (.tail _ (b3 p hp)))) fun t9 => ?_
        (with_reducible refine W_eqStr ?_; with_reducible refine W_truthy_bool ?_)
        rw [shown_inj]
        refine ⟨fun q2 => ?_, fun q2 => ?_⟩
        · have q2 : en.k = ka := by simpa using q2
          (with_reducible refine W_Subscript ?_; intro _; with_reducible refine W_cLocal ?_; with_reducible refine W_int ?_; intro _; with_reducible refine W_tupItem ?_)
          refine ⟨X4, oC, mc2, _, ?_, hX4, hC2, ?_, rfl, ?_, rfl⟩
          · k_extra "le"
          · k_extra "mm"
          · rw [hst, List.filter_cons_of_pos (by simpa using q2)]
            exact hys.append (.cons _ _ .nil)
        · have q2 : en.k ≠ ka := by simpa using q2
          refine ⟨X4, oC, mc2, _, ?_, hX4, hC2, ?_, rfl, ?_, rfl⟩
          · k_extra "le"
          · k_extra "mm"
          · rw [hst, List.filter_cons_of_neg (by simpa using q2)]
            simpa using hys
      rintro ys m2 H2 A3 e3 hyl2 hneed2 ⟨rfl, hys, rfl⟩
      subst hB
      rw [show es.take ps.length = es by rw [hPl, List.take_length]] at hys
      skip
      refine W_storeCP (o := o1) rfl (by k_extra "p1") d1 (fun o1' d1' => ?_)
      (with_reducible refine W_consQ ?_; intro _ _ _; with_reducible refine W_If ?_; intro _; with_reducible refine W_isTrue_Compare ?_; intro _; with_reducible refine W_methL ?_; intro _; with_reducible refine W_itemsL ?_; intro _; with_reducible refine W_items_cons ?_; intro _; with_reducible refine W_cell ?_; with_reducible refine W_items_nil ?_)
      refine sp_lookedUp (n := n + 9) (k := ka) (by assumption) (A := A) (G := X0) (by k_extra "pk") hM (fun p hp => by k_extra "mm") hS (fun p hp => by k_extra "mm") ⟨ta, tm1, tm2, rfl, by k_extra "mm"⟩ (hav.sub fun p hp => by k_extra "mm") (fun i ee ar X2 tv hek hke => ?_) fun hno ar X2 => ?_
      · rw [filter_one hE.kn (List.mem_of_getElem? hek) hke] at hys
        obtain ⟨t0, rfl⟩ : ∃ t0, ys = [.int ee.v t0] := by
          cases hys with
          | cons n t h =>
            cases h
            exact ⟨t, rfl⟩
        (with_reducible refine W_IfExp ?_; intro _; with_reducible refine W_isTrue_Compare ?_; intro _; with_reducible refine W_cell ?_; with_reducible refine W_List ?_; intro _; with_reducible refine W_items_nil ?_; with_reducible refine W_newList ?_; intro _)
        refine W_neNil (n := n + 14) (by assumption) (by k_extra "mm") (.head _) ?_
        (with_reducible refine W_truthy_bool ?_; with_reducible refine w_condt ?_; with_reducible refine W_Tuple ?_; intro _; with_reducible refine W_items_cons ?_; intro _; with_reducible refine W_Subscript ?_; intro _; with_reducible refine W_cell ?_; with_reducible refine W_int ?_; intro _; with_reducible refine w_lstItem ?_; with_reducible refine W_items_cons ?_; intro _; with_reducible refine W_true ?_; with_reducible refine W_items_nil ?_; with_reducible refine W_newTuple ?_; intro _)
        refine W_nePair (n := n + 14) (by assumption) (.tail _ (.tail _ (.head _))) (.head _) EqL.int EqL.mem ?_
        rw [show (!((ee.v == ee.v) && true)) = false by simp]
        (with_reducible refine W_truthy_bool ?_; with_reducible refine w_condf ?_; with_reducible refine W_nil ?_; with_reducible refine W_nil ?_)
        refine ⟨X', _, ?_, hX', trivial, pl, es, cm, by k_extra "lk", by k_extra "lk", by k_extra "lk", o6, o1', o2', o3, o4, o5, _, _, _, _, ps, e, A, ([(st, instObj 275 ds), (ds, oS), (ma, lstOf [.ref mp] eS)]), X0, ho6, d1', d2', d3, d4, d5, hM, hS, hP, hta, hE, hel, hbn, rfl⟩
        k_extra "le"
      · rw [show es.filter (fun e => decide (e.k = ka)) = [] from List.filter_eq_nil_iff.mpr fun e he => by simpa using hno e he] at hys
        obtain rfl : ys = [] := by cases hys; rfl
        (with_reducible refine W_IfExp ?_; intro _; with_reducible refine W_isTrue_Compare ?_; intro _; with_reducible refine W_cell ?_; with_reducible refine W_List ?_; intro _; with_reducible refine W_items_nil ?_; with_reducible refine W_newList ?_; intro _)
        refine W_neNil (n := n + 14) (by assumption) (by k_extra "mm") (.head _) ?_
        (with_reducible refine W_truthy_bool ?_; with_reducible refine w_condf ?_; with_reducible refine W_Tuple ?_; intro _; with_reducible refine W_items_cons ?_; intro _; with_reducible refine W_none ?_; with_reducible refine W_items_cons ?_; intro _; with_reducible refine W_true ?_; with_reducible refine W_items_nil ?_; with_reducible refine W_newTuple ?_; intro _)
        refine W_nePair (n := n + 14) (by assumption) (.tail _ (.tail _ (.head _))) (.head _) EqL.mem EqL.mem ?_
        (with_reducible refine W_truthy_bool ?_; with_reducible refine w_condf ?_; with_reducible refine W_nil ?_; with_reducible refine W_nil ?_)
        refine ⟨X', _, ?_, hX', trivial, pl, es, cm, by k_extra "lk", by k_extra "lk", by k_extra "lk", o6, o1', o2', o3, o4, o5, _, _, _, _, ps, e, A, ([(st, instObj 275 ds), (ds, oS), (ma, lstOf [.ref mp] eS)]), X0, ho6, d1', d2', d3, d4, d5, hM, hS, hP, hta, hE, hel, hbn, rfl⟩
        k_extra "le"
  · rintro m' H' - ⟨pl, es, cm, m1, m2, m3, o, o1, o2, o3, o4, o5, v1, v2, v3, v4, ps, e, A, S, X, ho, d1, d2, d3, d4, d5, hM, hS, hP, hta, hE, hel, hbn, rfl⟩
    have hPl := hP.len
    with_reducible refine W_consQ ?_; intro _ _ _
    refine' W_AssignComp ?hswf ?hylf ?hkcf ?h1f ?h2f ?h3f ?h4f ?h5f ?_
    case hswf => rfl
    case hylf => rfl
    case hkcf => rfl
    case h1f => rfl
    case h2f => decide
    case h3f => rfl
    case h4f => decide
    case h5f => rfl
    (with_reducible refine W_CallName ?_; intro _; with_reducible refine W_bltn ?_; with_reducible refine W_callT ?_; intro _; with_reducible refine W_itemsI ?_; intro _ _; with_reducible refine W_items_nil ?_)
    refine W_range (by omega) (by omega) fun it X1 hX1 => ?_
    refine ⟨6, _, _, _, it, X1, _, fun i ys m2 H' => m2 = m' ∧ ys.length = i ∧ ∃ o6 ds, IsSrc o6 ∧ IntsAre ys ds ∧ (∀ d ∈ ds, (0 : Int) ≤ d) ∧ H' = (src, o6) :: (ad5, o1) :: (ad4, o2) :: (ad3, o3) :: (ad2, o4) :: (ad1, o5) :: (pl, lstOf ps e) :: (A ++ (S ++ X)),
      ⟨rfl, It_range, ?lef, hX1, trivial, rfl, rfl, o, [], ho, .nil, nofun, rfl⟩, Self_range, by exact Nat.le_of_ble_eq_true rfl, fun _ => trivial, ?_, ?_⟩
    case lef => k_extra "le"
    · rintro i2 v2 ys m2 H2 X4 D oC mc2 A3 e3 hi2 hyl2 ⟨⟨t, rfl⟩, hX4⟩ - ⟨rfl, hyi, o6, ds, ho6, hys, hd0, rfl⟩ hC2 hm2
      refine W_tests_nil ⟨fun _ => ?_, fun q => nomatch q⟩
      (with_reducible refine W_CallName ?_; intro _; with_reducible refine W_cGlob ?_; with_reducible refine W_callK ?_; intro _; with_reducible refine W_items_cons ?_; intro _; with_reducible refine W_cCell ?_; with_reducible refine W_itemsI ?_; intro _ _; with_reducible refine W_items_nil ?_)
      refine sp_takeP (n := n + 14) (by assumption) (by k_extra "pk") ho6 (by decide) (by decide) fun w tw o7 ho7 hw0 hw9 => ?_
      skip
      refine ⟨X4, oC, mc2, _, ?_, hX4, hC2, trivial, rfl, by simp [hyi], o7, ds ++ [w], ho7, hys.append (.cons _ _ .nil), ?_, rfl⟩
      · k_extra "le"
      · intro d hd
        rcases List.mem_append.mp hd with z | z
        · exact hd0 d z
        · rw [List.mem_singleton.mp z]; exact hw0
    rintro dvs m2 H2 rw ed - - ⟨rfl, hyi, o6, ds, ho6, hds, hd0, rfl⟩
    have hdl : ds.length = 6 := by rw [← hds.length, hyi]
    obtain ⟨dst, oS, mc, ca, rlS, ma, kS, eS, hSe, hfS⟩ := id hS
    subst hSe
    obtain ⟨⟨tm1, tm2, htm⟩, -⟩ := id hta
    (with_reducible refine W_consQ ?_; intro _ _ _; with_reducible refine W_AssignTuple ?_; intro _; with_reducible refine W_Tuple ?_; intro _; with_reducible refine W_items_cons ?_; intro _; with_reducible refine W_callG ?_; intro _; with_reducible refine W_items_cons ?_; intro _; with_reducible refine W_methL ?_; intro _; with_reducible refine W_itemsL ?_; intro _; with_reducible refine W_items_nil ?_)
    refine sp_mapOf (n := n + 14) (by assumption) hS (fun p hp => by k_extra "mm") ⟨ta, tm1, tm2, rfl, by k_extra "mm"⟩ ?_
    (with_reducible refine W_items_nil ?_)
    refine sp_newRound (n := n + 12) (by assumption) (A := A) (by k_extra "pk") hM fun way Wb hW => ?_
    (with_reducible refine W_items_cons ?_; intro _; with_reducible refine W_List ?_; intro _; with_reducible refine W_items_nil ?_; with_reducible refine W_newList ?_; intro _; with_reducible refine W_items_cons ?_; intro _; with_reducible refine W_callG ?_; intro _; with_reducible refine W_itemsL ?_; intro _; with_reducible refine W_items_nil ?_)
    rename_i tol _ _ _
    refine sp_newChoices (n := n + 12) (by assumption) fun ch Cb hC => ?_
    (with_reducible refine W_items_cons ?_; intro _; with_reducible refine W_CallName ?_; intro _; with_reducible refine W_bltn ?_; with_reducible refine W_callT ?_; intro _; with_reducible refine W_itemsL ?_; intro _; with_reducible refine W_items_nil ?_)
    refine W_listOf (vs := ps) (by k_extra "mm") (fun ll e2 => ?_) (by simp only [sizeLine_eq]; omega)
    (with_reducible refine W_items_nil ?_; with_reducible refine W_newTuple ?_; intro _; with_reducible refine W_unpack ?_; with_reducible refine W_eachName ?_; with_reducible refine W_store ?_; with_reducible refine W_eachName ?_; with_reducible refine W_store ?_; with_reducible refine W_eachName ?_; with_reducible refine W_store ?_; with_reducible refine W_eachName ?_; with_reducible refine W_store ?_; with_reducible refine W_eachNil ?_; with_reducible refine W_consQ ?_; intro _ _ _)
    refine W_For ?_
    (with_reducible refine W_CallName ?_; intro _; with_reducible refine W_bltn ?_; with_reducible refine W_callT ?_; intro _; with_reducible refine W_items_cons ?_; intro _; with_reducible refine W_BinOp ?_; intro _; with_reducible refine W_CallName ?_; intro _; with_reducible refine W_bltn ?_; with_reducible refine W_callB0 ?_; intro _; with_reducible refine W_itemsL ?_; intro _; with_reducible refine W_items_nil ?_)
    refine W_len (vs := ps) (by k_extra "mm") (fun t5 => ?_) (by omega)
    (with_reducible refine W_int ?_; intro _; with_reducible refine W_add ?_; intro _; with_reducible refine W_items_nil ?_)
    refine W_range (by omega) (by omega) fun it X2 hX2 => ?_
    refine ⟨_, _, _, _, it, X2, _, fun i m' H' => MJ G0 ad1 ad2 ad3 ad4 ad5 st mp ta way tol ch rw cm dvs ed i 1 m' H', ⟨rfl, It_range, ?leg, hX2, trivial, ll, o1, v1, ps, e2, [], 0, A, [(st, instObj 275 dst), (dst, oS), (ma, lstOf [.ref mp] eS)], Wb, Cb, X, es, cm, [], 0, by k_extra "lk", by k_extra "lk", by k_extra "lk", by k_extra "lk", by k_extra "lk", by k_extra "lk", by k_extra "lk", d1, hM, hS, hW, hC, (actE_all hE).symm ▸ hP, rfl, rfl, .inr rfl, Nat.zero_le _, hE, Nat.le_refl _, by omega, fun _ => hbn, hta, rfl⟩, ?_, ?_⟩
    case leg => k_extra "le"
    · rintro i v m' H' X' hlt ⟨⟨t, rfl⟩, hX'⟩ - hJ
      have hi20 : i ≤ 20 := by omega
      with_reducible refine W_ownedName ?_
      (with_reducible refine W_assignName ?_)
      (with_reducible refine W_store ?_)
      refine W_cutS (fun m1 H1 => ∃ H4, MJ G0 ad1 ad2 ad3 ad4 ad5 st mp ta way tol ch rw cm dvs ed i 0 m1 H4 ∧ Le (X' ++ H4) H1) ?_ ?_
      · clear hM hS hW hC hP hta hE hel hbn htm tm1 tm2 hPl hfS
        generalize hfin : cm = fin at *
        obtain ⟨ll, o1, v1, ls, e1, ts, e2, A, S, Wb, Cb, X, es, cm, nos, tk, n1, n2, n3, n4, n5, n6, n7, d1, hM, hS, hW, hC, hP, htsl, hnl, htk, htk2, hE, hfc, hel, hbn, hta, rfl⟩ := hJ
        obtain ⟨ds, oS, mc, ca, rlS, ma, kS, eS, hSe, hfS⟩ := id hS
        subst hSe
        obtain ⟨⟨tm1, tm2, htm⟩, -⟩ := id hta
        (with_reducible refine W_If ?_; intro _; with_reducible refine W_isTrue_Compare ?_; intro _; with_reducible refine W_local ?_; with_reducible refine W_int ?_; intro _; with_reducible refine W_eq ?_; with_reducible refine W_truthy_bool ?_)
        refine ⟨fun q => ?_, fun q => ?_⟩
        · have q : i = 1 := by have := eq_of_beq q; omega
          subst q
          (with_reducible refine W_consQ ?_; intro _ _ _; with_reducible refine W_Expr ?_; intro _; with_reducible refine W_methL ?_; intro _; with_reducible refine W_itemsL ?_; intro _; with_reducible refine W_items_cons ?_; intro _; with_reducible refine W_bytes ?_; intro _; with_reducible refine W_itemsI ?_; intro _ _; with_reducible refine W_items_nil ?_)
          refine sp_putKey (n := n + 9) (k := .bn) (by assumption) (A := A) (G := X) (by k_extra "pk") hM (fun p hp => by k_extra "mm") hS (fun p hp => by k_extra "mm") ⟨ta, tm1, tm2, rfl, by k_extra "mm"⟩ ⟨_, rfl⟩ (by omega) (fun i e A2 X2 he hek hM2 => absurd hek (hbn (Nat.le_refl _) e (List.mem_of_getElem? he))) fun hno a A2 X2 hM2 => ?_
          (with_reducible refine W_consQ ?_; intro _ _ _; with_reducible refine W_Expr ?_; intro _; with_reducible refine W_methL ?_; intro _; with_reducible refine W_itemsL ?_; intro _; with_reducible refine W_itemsI ?_; intro _ _; with_reducible refine W_items_nil ?_)
          refine sp_dropKey (n := n + 9) (k := .i1) (by assumption) (A := A2) (G := X2 ++ X) (by k_extra "pk") hM2 (fun p hp => (List.mem_append.mp hp).elim (fun q => by k_extra "mm") fun q => by k_extra "mm") hS (fun p hp => by k_extra "mm") ⟨ta, tm1, tm2, rfl, by k_extra "mm"⟩ ⟨_, rfl⟩ (by rw [List.length_append, List.length_singleton]; omega) fun A3 X3 hM3 => ?_
          (with_reducible refine W_consQ ?_; intro _ _ _)
          have hPl := hP.len
          have hal : (actE es fin nos).length ≤ es.length := List.length_filter_le _ _
          have s2 : ∀ p ∈ X, p ∈ X2 ++ X := fun p hp => List.mem_append_right _ hp
          have hP2 := hP.sub (.of s2)
          refine W.le (H' := X' ++ ((ad5, o1) :: (ll, lstOf ls e1) :: (tol, lstOf ts e2) :: (rw, lstOf dvs ed) :: (A3 ++ (([(st, instObj 275 ds), (ds, oS), (ma, lstOf [.ref mp] eS)]) ++ (Wb ++ (Cb ++ (X2 ++ X))))))) (by k_extra "le") ?_
          generalize hB : (X' ++ ((ad5, o1) :: (ll, lstOf ls e1) :: (tol, lstOf ts e2) :: (rw, lstOf dvs ed) :: (A3 ++ (([(st, instObj 275 ds), (ds, oS), (ma, lstOf [.ref mp] eS)]) ++ (Wb ++ (Cb ++ (X2 ++ X)))))) : HL) = B
          have b1 : (ll, lstOf ls e1) ∈ B := by rw [← hB]; k_extra "mm"
          have b3 : ∀ p ∈ X2 ++ X, p ∈ B := fun p hp => by rw [← hB]; k_extra "mm"
          refine' W_AssignComp ?hswh ?hylh ?hkch ?h1h ?h2h ?h3h ?h4h ?h5h ?_
          case hswh => rfl
          case hylh => rfl
          case hkch => rfl
          case h1h => rfl
          case h2h => decide
          case h3h => rfl
          case h4h => decide
          case h5h => rfl
          (with_reducible refine W_local ?_)
          refine W_iter_list (vs := ls) (e := e1) (by k_extra "mm") fun it2 X5 hX5 => ?_
          refine ⟨ls.length, _, _, _, it2, X5, _, fun i ys m2 H' => m2 = upd m' "turn" (.int ((1 : Nat) : Int) t) ∧ ys = prF (fun e => decide (e.k ≠ .i1)) ((actE es fin nos).take i) (ls.take i) ∧ H' = B,
            ⟨rfl, It_list (vs := ls) (e := e1), .rfl, hX5, by k_extra "mm", rfl, rfl, rfl⟩, Self_list, by simp only [sizeLine_eq]; omega, fun h => .tail _ (.tail _ h), ?_, ?_⟩
          · rintro i2 v2 ys m2 H2 X4 D oC mc2 A4 e3 hi2 hyl2 ⟨hxi, hX4⟩ hneed2 ⟨rfl, rfl, rfl⟩ hC2 hm2
            obtain ⟨en, p, kv2, tr, hen, rfl, hpm, hkv2⟩ := hP2.at hxi
            have hpm := b3 _ hpm
            have hst := prF_step (fun e => decide (e.k ≠ .i1)) hen hxi
            with_reducible refine W_tests_one ?_
            (with_reducible refine W_isTrue_Compare ?_; intro _; with_reducible refine W_CallName ?_; intro _; with_reducible refine W_cBltn ?_; with_reducible refine W_callB0 ?_; intro _; with_reducible refine W_items_cons ?_; intro _; with_reducible refine W_Subscript ?_; intro _; with_reducible refine W_cLocal ?_; with_reducible refine W_int ?_; intro _; with_reducible refine W_tupItem ?_; with_reducible refine W_items_nil ?_)
            refine W_reprKey (n := n + 14) (by assumption) (hkv2.sub fun p hp => List.mem_append_right _ (.tail _ (.tail _ (b3 p hp)))) fun t8 => ?_
            (with_reducible refine W_str ?_; intro _; with_reducible refine W_neStr ?_; with_reducible refine W_truthy_bool ?_)
            rw [show (en.k.shown == Str.ofString "1") = decide (en.k = .i1) from shown_inj en.k .i1]
            refine ⟨fun q2 => ?_, fun q2 => ?_⟩
            · have q2 : en.k ≠ .i1 := by simpa using q2
              (with_reducible refine W_cLocal ?_)
              refine ⟨X4, oC, mc2, _, ?_, hX4, hC2, ?_, rfl, ?_, rfl⟩
              · k_extra "le"
              · k_extra "mm"
              · rw [hst, if_pos (by simpa using q2)]
            · have q2 : en.k = .i1 := by simpa using q2
              refine ⟨X4, oC, mc2, _, ?_, hX4, hC2, ?_, rfl, ?_, rfl⟩
              · k_extra "le"
              · k_extra "mm"
              · rw [hst, if_neg (by simpa using q2), List.append_nil]
          · rintro ys m2 H2 A4 e3 hyl2 hneed2 ⟨rfl, rfl, rfl⟩
            subst hB
            rw [show (actE es fin nos).take ls.length = actE es fin nos by rw [hPl, List.take_length], List.take_length]
            (with_reducible refine W_nil ?_)
            have hact : actE ((es ++ [(⟨a, cm, Ky.bn, 5⟩ : Ent)]).filter fun e => decide (e.k ≠ Ky.i1)) fin nos = (actE es fin nos).filter fun e => decide (e.k ≠ Ky.i1) := by rw [actE_filter, actE_snoc hfc]
            refine ⟨_, ⟨A4, o1, v1, _, e3, ts, e2, A3, ([(st, instObj 275 ds), (ds, oS), (ma, lstOf [.ref mp] eS)]), Wb, Cb, X2 ++ X, _, cm + 1, nos, tk, by k_extra "lk", by k_extra "lk", by k_extra "lk", by k_extra "lk", by k_extra "lk", by k_extra "lk", by k_extra "lk", d1, hM3, hS, hW, hC, hact.symm ▸ hP2.filter _, htsl, hnl, ?_, htk2, (hE.snoc hno (by decide) (by decide)).filter _, Nat.le_succ_of_le hfc, ?_, fun z => absurd z (by decide), hta.sub s2, rfl⟩, ?_⟩
            · rw [hact]
              rcases htk with z | z
              · exact .inl (Nat.le_trans (List.length_filter_le _ _) z)
              · exact .inr z
            · refine Nat.le_trans (List.length_filter_le _ _) ?_
              rw [List.length_append, List.length_singleton]
              omega
            · k_extra "le"
        · have q : i ≠ 1 := fun z => by subst z; exact absurd q nofun
          (with_reducible refine W_nil ?_)
          exact ⟨_, ⟨ll, o1, v1, ls, e1, ts, e2, A, _, Wb, Cb, X, es, cm, nos, tk, by k_extra "lk", by k_extra "lk", by k_extra "lk", by k_extra "lk", by k_extra "lk", by k_extra "lk", by k_extra "lk", d1, hM, hS, hW, hC, hP, htsl, hnl, htk, htk2, hE, hfc, by omega, fun z => hbn (by omega), hta, rfl⟩, .rfl⟩
      · clear hM hS hW hC hP hta hE hel hbn htm tm1 tm2 hPl hfS
        rintro m1 H1 ⟨H4, hJ, hle⟩
        refine W.le hle ?_
        generalize hfin : cm = fin at *
        obtain ⟨ll, o1, v1, ls, e1, ts, e2, A, S, Wb, Cb, X, es, cm, nos, tk, n1, n2, n3, n4, n5, n6, n7, d1, hM, hS, hW, hC, hP, htsl, hnl, htk, htk2, hE, hfc, hel, hbn, hta, rfl⟩ := hJ
        obtain ⟨dst2, oS, mc, ca, rlS, ma, kS, eS, hSe, hfS⟩ := id hS
        subst hSe
        obtain ⟨⟨tm1, tm2, htm⟩, -⟩ := id hta
        have hPl := hP.len
        have hal : (actE es fin nos).length ≤ es.length := List.length_filter_le _ _
        obtain ⟨dw, oW, tw, tl, tsv, ew, hWe, hfW, htsv⟩ := id hW
        subst hWe
        (with_reducible refine W_consQ ?_; intro _ _ _; with_reducible refine W_assignN ?_; intro _; with_reducible refine W_methL ?_; intro _; with_reducible refine W_itemsL ?_; intro _; with_reducible refine W_items_nil ?_)
        refine W.le (H' := A ++ ([(way, instObj 301 dw), (dw, oW), (tl, lstOf tsv ew)] ++ (Cb ++ (X' ++ ((ad5, o1) :: (ll, lstOf ls e1) :: (tol, lstOf ts e2) :: (rw, lstOf dvs ed) :: ([(st, instObj 275 dst2), (dst2, oS), (ma, lstOf [.ref mp] eS)] ++ X)))))) (by k_extra "le") ?_
        refine sp_next (n := n + 12) (A := A) (Cb := Cb) (G := X) (by assumption) Pk.head Pk.head Pk.head hM (fun p hp => by k_extra "mm") hW hC (by k_extra "mm") hds hd0 (by omega) (by omega) (by omega) (by omega) (fun hnil => ?_) (fun hne e Wb' Cb' r kv t he hW' hC' hkv => ?_)
        · have hls : ls = [] := List.length_eq_zero_iff.mp (by rw [hPl, hnil]; rfl)
          subst hls
          (with_reducible refine W_consQ ?_; intro _ _ _; with_reducible refine W_If ?_; intro _; with_reducible refine W_isTrue_Compare ?_; intro _; with_reducible refine W_local ?_; with_reducible refine W_List ?_; intro _; with_reducible refine W_items_nil ?_; with_reducible refine W_newList ?_; intro _)
          refine W_eqNil (n := n + 14) (by assumption) (by k_extra "mm") (.head _) ?_
          (with_reducible refine W_truthy_bool ?_; with_reducible refine w_condt ?_; with_reducible refine W_consQ ?_; intro _ _ _; with_reducible refine W_Return ?_)
          with_reducible refine W_BoolAnd ?_
          (with_reducible refine W_Compare ?_; intro _; with_reducible refine W_local ?_; with_reducible refine W_none ?_; with_reducible refine W_is_none_none ?_; with_reducible refine W_truthy_bool ?_; with_reducible refine w_condt ?_)
          with_reducible refine W_Bool1 ?_
          (with_reducible refine W_Compare ?_; intro _; with_reducible refine W_methL ?_; intro _; with_reducible refine W_items_cons ?_; intro _; with_reducible refine W_none ?_; with_reducible refine W_itemsI ?_; intro _ _; with_reducible refine W_items_nil ?_)
          refine sp_lookedUp0 (n := n + 9) (k := .i3) (F := []) (by assumption) hS (fun p hp => by k_extra "mm") ⟨_, rfl⟩ fun a X5 => ?_
          (with_reducible refine W_Tuple ?_; intro _; with_reducible refine W_items_cons ?_; intro _; with_reducible refine W_none ?_; with_reducible refine W_items_cons ?_; intro _; with_reducible refine W_true ?_; with_reducible refine W_items_nil ?_; with_reducible refine W_newTuple ?_; intro _)
          refine W_eqPair (n := n + 14) (by assumption) (.tail _ (.head _)) (.head _) EqL.mem EqL.mem ?_
          exact Dr.id (h _ fun p hp => by have := hta.2 p hp; k_extra "mm")
        · have hls : ls.isEmpty = false := by
            cases ls with
            | nil => exact absurd (List.length_eq_zero_iff.mp (by rw [← hPl]; rfl)) hne
            | cons _ _ => rfl
          have hl0 : (actE es fin nos).length ≠ 0 := fun z => hne (List.length_eq_zero_iff.mp z)
          (with_reducible refine W_consQ ?_; intro _ _ _; with_reducible refine W_If ?_; intro _; with_reducible refine W_isTrue_Compare ?_; intro _; with_reducible refine W_local ?_; with_reducible refine W_List ?_; intro _; with_reducible refine W_items_nil ?_; with_reducible refine W_newList ?_; intro _)
          refine W_eqNil (n := n + 14) (by assumption) (by k_extra "mm") (.head _) ?_
          rw [hls]
          (with_reducible refine W_truthy_bool ?_)
          (with_reducible refine w_condf ?_)
          (with_reducible refine W_nil ?_)
          (with_reducible refine W_consQ ?_; intro _ _ _)
          (with_reducible refine W_Assign ?_; intro _)
          (with_reducible refine W_Subscript ?_; intro _)
          (with_reducible refine W_local ?_)
          refine W.le (H' := X' ++ ((tol, lstOf ts e2) :: (ad5, o1) :: (ll, lstOf ls e1) :: (rw, lstOf dvs ed) :: (r, tupOf [kv, .int e.v t]) :: (A ++ (([(st, instObj 275 dst2), (dst2, oS), (ma, lstOf [.ref mp] eS)]) ++ (Wb' ++ (Cb' ++ X)))))) (by k_extra "le") ?_
          have hdsl := hds.length
          refine W.cut (fun v => ∃ t, v = .int ((pickN ds tk (actE es fin nos).length).1 : Int) t) ?_ fun v q => ?_
          · (with_reducible refine W_IfExp ?_; intro _; with_reducible refine W_isTrue_Compare ?_; intro _; with_reducible refine W_CallName ?_; intro _; with_reducible refine W_bltn ?_; with_reducible refine W_callB0 ?_; intro _; with_reducible refine W_itemsL ?_; intro _; with_reducible refine W_items_nil ?_)
            refine W_len (vs := ls) (by k_extra "mm") (fun t5 => ?_) (by omega)
            (with_reducible refine W_int ?_; intro _; with_reducible refine W_eq ?_; with_reducible refine W_truthy_bool ?_)
            refine ⟨fun q => ?_, fun q => ?_⟩
            · have q : (actE es fin nos).length ≤ 1 := by have := eq_of_beq q; omega
              (with_reducible refine W_int ?_; intro _)
              exact ⟨⟨_, by rw [pick_one q]; rfl⟩, rfl, rfl⟩
            · have q : ¬ (actE es fin nos).length ≤ 1 := fun z => by
                have z2 : ls.length = 1 := by omega
                rw [z2] at q
                exact absurd q nofun
              have htki : tk = i := htk.resolve_left q
              (with_reducible refine W_IfExp ?_; intro _; with_reducible refine W_isTrue_Compare ?_; intro _; with_reducible refine W_CallName ?_; intro _; with_reducible refine W_bltn ?_; with_reducible refine W_callB0 ?_; intro _; with_reducible refine W_itemsL ?_; intro _; with_reducible refine W_items_nil ?_)
              refine W_len (vs := ts) (by k_extra "mm") (fun t6 => ?_) (by omega)
              (with_reducible refine W_int ?_; intro _; with_reducible refine W_lt ?_; with_reducible refine W_truthy_bool ?_)
              refine ⟨fun q2 => ?_, fun q2 => ?_⟩
              · have q2 := of_decide_eq_true q2
                obtain ⟨d, hd⟩ : ∃ d, ds[ts.length]? = some d := ⟨_, List.getElem?_eq_getElem (by omega)⟩
                obtain ⟨td, hdt⟩ := ints_get hds hd
                (with_reducible refine W_BinOp ?_; intro _; with_reducible refine W_Subscript ?_; intro _; with_reducible refine W_local ?_; with_reducible refine W_CallName ?_; intro _; with_reducible refine W_bltn ?_; with_reducible refine W_callB0 ?_; intro _; with_reducible refine W_itemsL ?_; intro _; with_reducible refine W_items_nil ?_)
                refine W_len (vs := ts) (by k_extra "mm") (fun t7 => ?_) (by omega)
                refine W_lstItem (vs := dvs) (v := .int d td) (by k_extra "mm") (by omega) (by rw [Int.toNat_natCast]; exact hdt) ?_ (by omega)
                (with_reducible refine W_CallName ?_; intro _; with_reducible refine W_bltn ?_; with_reducible refine W_callB0 ?_; intro _; with_reducible refine W_itemsL ?_; intro _; with_reducible refine W_items_nil ?_)
                refine W_len (vs := ls) (by k_extra "mm") (fun t8 => ?_) (by omega)
                refine W_mod (by omega) fun t9 => ?_
                exact ⟨⟨_, by rw [pick_mod q (d := d) (by rw [htki, ← htsl]; exact hd) (hd0 d (List.mem_of_getElem? hd)), hPl]⟩, rfl, rfl⟩
              · have q2 := of_decide_eq_false q2
                (with_reducible refine W_int ?_; intro _)
                exact ⟨⟨_, by rw [pick_none q (List.getElem?_eq_none (by omega))]; rfl⟩, rfl, rfl⟩
          obtain ⟨tq, rfl⟩ := q
          obtain ⟨v, hv⟩ : ∃ v, ls[(pickN ds tk (actE es fin nos).length).1]? = some v := ⟨_, List.getElem?_eq_getElem (by rw [hPl]; exact (List.getElem?_eq_some_iff.mp he).1)⟩
          obtain ⟨e', pd, kvd, td, hen, rfl, hpd, hkvd⟩ := hP.at hv
          obtain rfl : e' = e := Option.some.inj (hen.symm.trans he)
          have hem : e' ∈ actE es fin nos := List.mem_of_getElem? he
          have hee : e' ∈ es := (List.mem_filter.mp hem).1
          obtain ⟨hv0, hv1⟩ := hE.vr e' hee
          have hplt : (pickN ds tk (actE es fin nos).length).1 < ls.length := (List.getElem?_eq_some_iff.mp hv).1
          refine W_lstItem (vs := ls) (v := .ref pd) (by k_extra "mm") (by omega) (by rw [Int.toNat_natCast]; exact hv) ?_ (by omega)
          skip
          refine W_storeCP (o := o1) rfl (by k_extra "p1") d1 (fun o1' d1' => ?_)
          (with_reducible refine W_consQ ?_; intro _ _ _; with_reducible refine W_Expr ?_; intro _; with_reducible refine W_Method ?_; intro _; with_reducible refine W_local ?_; with_reducible refine W_getAppend ?_; with_reducible refine W_callB ?_; intro _; with_reducible refine W_items_cons ?_; intro _; with_reducible refine W_cell ?_; with_reducible refine W_items_nil ?_)
          refine W.le (H' := (tol, lstOf ts e2) :: (X' ++ ((ad5, o1') :: (ll, lstOf ls e1) :: (rw, lstOf dvs ed) :: (r, tupOf [kv, .int e'.v t]) :: (A ++ (([(st, instObj 275 dst2), (dst2, oS), (ma, lstOf [.ref mp] eS)]) ++ (Wb' ++ (Cb' ++ X))))))) (by k_extra "le") ?_
          refine W_append (vs := ts) .head ?_ (by simp only [sizeLine_eq]; omega)
          refine W.le (H' := X' ++ ((ad5, o1') :: (ll, lstOf ls e1) :: (tol, lstOf (ts ++ [.ref pd]) (e2 + 1)) :: (rw, lstOf dvs ed) :: (r, tupOf [kv, .int e'.v t]) :: (A ++ (([(st, instObj 275 dst2), (dst2, oS), (ma, lstOf [.ref mp] eS)]) ++ (Wb' ++ (Cb' ++ X)))))) (by k_extra "le") ?_
          generalize hB : (X' ++ ((ad5, o1') :: (ll, lstOf ls e1) :: (tol, lstOf (ts ++ [.ref pd]) (e2 + 1)) :: (rw, lstOf dvs ed) :: (r, tupOf [kv, .int e'.v t]) :: (A ++ (([(st, instObj 275 dst2), (dst2, oS), (ma, lstOf [.ref mp] eS)]) ++ (Wb' ++ (Cb' ++ X))))) : HL) = B
          have b1 : (ll, lstOf ls e1) ∈ B := by rw [← hB]; k_extra "mm"
          have b2 : (ad5, o1') ∈ B := by rw [← hB]; k_extra "mm"
          have b3 : ∀ p ∈ X, p ∈ B := fun p hp => by rw [← hB]; k_extra "mm"
          (with_reducible refine W_consQ ?_; intro _ _ _)
          refine' W_AssignComp ?hswi ?hyli ?hkci ?h1i ?h2i ?h3i ?h4i ?h5i ?_
          case hswi => rfl
          case hyli => rfl
          case hkci => rfl
          case h1i => rfl
          case h2i => decide
          case h3i => rfl
          case h4i => decide
          case h5i => rfl
          (with_reducible refine W_local ?_)
          refine W_iter_list (vs := ls) (e := e1) (by k_extra "mm") fun it2 X5 hX5 => ?_
          refine ⟨ls.length, _, _, _, it2, X5, _, fun i ys m2 H' => m2 = upd m1 "found" (.ref r) ∧ ys = prF (fun x => !(decide (x.k = e'.k) && decide (x.v = e'.v))) ((actE es fin nos).take i) (ls.take i) ∧ H' = B,
            ⟨rfl, It_list (vs := ls) (e := e1), .rfl, hX5, by k_extra "mm", rfl, rfl, rfl⟩, Self_list, by simp only [sizeLine_eq]; omega, fun h => .tail _ (.tail _ h), ?_, ?_⟩
          · rintro i2 v2 ys m2 H2 X4 D oC mc2 A4 e3 hi2 hyl2 ⟨hxi, hX4⟩ hneed2 ⟨rfl, rfl, rfl⟩ hC2 hm2
            obtain ⟨en, p, kv2, tr, hen2, rfl, hpm, hkv2⟩ := hP.at hxi
            have hpm := b3 _ hpm
            have hpd := b3 _ hpd
            have hst := prF_step (fun x => !(decide (x.k = e'.k) && decide (x.v = e'.v))) hen2 hxi
            have henm : en ∈ es := (List.mem_filter.mp (List.mem_of_getElem? hen2)).1
            obtain ⟨hn0, hn1⟩ := hE.vr en henm
            with_reducible refine W_tests_one ?_
            (with_reducible refine W_or ?_; intro _; with_reducible refine W_isTrue_Compare ?_; intro _; with_reducible refine W_cLocal ?_; with_reducible refine W_cCell ?_)
            refine W_nePair (n := n + 14) (by assumption) (by k_extra "mm") (by k_extra "mm") ((EqL.key (hkv2.sub fun p hp => List.mem_append_right _ (.tail _ (.tail _ (b3 p hp)))) (hkvd.sub fun p hp => List.mem_append_right _ (.tail _ (.tail _ (b3 p hp))))).up (by omega)) EqL.int ?_
            (with_reducible refine W_truthy_bool ?_)
            refine ⟨fun q2 => ?_, fun q2 => ?_⟩
            · (with_reducible refine w_condt ?_; with_reducible refine W_cLocal ?_)
              refine ⟨X4, oC, mc2, _, ?_, hX4, hC2, ?_, rfl, ?_, rfl⟩
              · k_extra "le"
              · k_extra "mm"
              · rw [hst, if_pos (keep_of q2)]
            · have hvv := same_of q2
              (with_reducible refine W_or ?_; intro _; with_reducible refine W_isTrue_Compare ?_; intro _; with_reducible refine W_CallName ?_; intro _; with_reducible refine W_cBltn ?_; with_reducible refine W_callB0 ?_; intro _; with_reducible refine W_items_cons ?_; intro _; with_reducible refine W_cLocal ?_; with_reducible refine W_items_nil ?_)
              refine W_reprRow (n := n + 14) (k := en.k) (x := en.v) (by assumption) (by k_extra "mm") (hkv2.sub fun p hp => List.mem_append_right _ (.tail _ (.tail _ (b3 p hp)))) hn0 hn1 fun t8 => ?_
              (with_reducible refine W_CallName ?_; intro _; with_reducible refine W_cBltn ?_; with_reducible refine W_callB0 ?_; intro _; with_reducible refine W_items_cons ?_; intro _; with_reducible refine W_cCell ?_; with_reducible refine W_items_nil ?_)
              refine W_reprRow (n := n + 14) (k := e'.k) (x := e'.v) (by assumption) (by k_extra "mm") (hkvd.sub fun p hp => List.mem_append_right _ (.tail _ (.tail _ (b3 p hp)))) hv0 hv1 fun t9 => ?_
              with_reducible refine W_neStr ?_
              rw [hvv, row_ne _ _ hv0 hv1]
              (with_reducible refine W_truthy_bool ?_)
              refine ⟨fun q3 => ?_, fun q3 => ?_⟩
              · have q3 : en.k ≠ e'.k := by simpa using q3
                (with_reducible refine w_condt ?_; with_reducible refine W_cLocal ?_)
                refine ⟨X4, oC, mc2, _, ?_, hX4, hC2, ?_, rfl, ?_, rfl⟩
                · k_extra "le"
                · k_extra "mm"
                · rw [hst, if_pos (by simp [q3])]
              · have q3 : en.k = e'.k := by simpa using q3
                (with_reducible refine W_or_nil ?_; with_reducible refine w_condf ?_)
                refine ⟨X4, oC, mc2, _, ?_, hX4, hC2, ?_, rfl, ?_, rfl⟩
                · k_extra "le"
                · k_extra "mm"
                · rw [hst, if_neg (by simp [q3, hvv]), List.append_nil]
          · rintro ys m2 H2 A4 e3 hyl2 hneed2 ⟨rfl, rfl, rfl⟩
            subst hB
            rw [show (actE es fin nos).take ls.length = actE es fin nos by rw [hPl, List.take_length], List.take_length]
            (with_reducible refine W_consQ ?_; intro _ _ _; with_reducible refine W_If ?_; intro _; with_reducible refine W_isTrue_Compare ?_; intro _; with_reducible refine W_CallName ?_; intro _; with_reducible refine W_bltn ?_; with_reducible refine W_callB0 ?_; intro _; with_reducible refine W_itemsL ?_; intro _; with_reducible refine W_items_nil ?_)
            refine W_reprRow (n := n + 14) (k := e'.k) (x := e'.v) (r := r) (by assumption) (by k_extra "mm") (hkv.sub fun p hp => by k_extra "mm") hv0 hv1 fun t8 => ?_
            (with_reducible refine W_CallName ?_; intro _; with_reducible refine W_bltn ?_; with_reducible refine W_callB0 ?_; intro _; with_reducible refine W_items_cons ?_; intro _; with_reducible refine W_cell ?_; with_reducible refine W_items_nil ?_)
            refine W_reprRow (n := n + 14) (k := e'.k) (x := e'.v) (r := pd) (by assumption) (by k_extra "mm") (hkvd.sub fun p hp => by k_extra "mm") hv0 hv1 fun t9 => ?_
            with_reducible refine W_neStr ?_
            rw [row_ne _ _ hv0 hv1, show (!decide (e'.k = e'.k)) = false by simp]
            (with_reducible refine W_truthy_bool ?_; with_reducible refine w_condf ?_; with_reducible refine W_nil ?_; with_reducible refine W_nil ?_)
            obtain ⟨pk1, pk2⟩ := pick_snd (ds := ds) (tk := tk) (N := (actE es fin nos).length)
            have hact := actE_told hE hem
            refine ⟨X', _, ?_, hX', trivial, A4, o1', _, _, e3, ts ++ [.ref pd], e2 + 1, A, ([(st, instObj 275 dst2), (dst2, oS), (ma, lstOf [.ref mp] eS)]), Wb', Cb', X, es, cm, nos ++ [e'.no], (pickN ds tk (actE es fin nos).length).2, by k_extra "lk", by k_extra "lk", by k_extra "lk", by k_extra "lk", by k_extra "lk", by k_extra "lk", by k_extra "lk", d1', hM, hS, hW', hC', hact.symm ▸ hP.filter _, ?_, ?_, ?_, ?_, hE, hfc, by omega, fun z => hbn (by omega), hta, rfl⟩
            · k_extra "le"
            · rw [List.length_append, htsl]; rfl
            · rw [List.length_append, hnl]; rfl
            · by_cases z : (actE es fin nos).length ≤ 1
              · exact .inl (by rw [hact]; exact Nat.le_trans (List.length_filter_le _ _) z)
              · exact .inr (by rw [pk2 z, htk.resolve_left z])
            · by_cases z : (actE es fin nos).length ≤ 1
              · rw [pk1 z]; omega
              · rw [pk2 z]; omega
    · rintro m' H' - hJ
      obtain ⟨ll, o1, v1, ls, e1, ts, e2, A, S, Wb, Cb, X, es, cm, nos, tk, n1, n2, n3, n4, n5, n6, n7, d1, hM, hS, hW, hC, hP, htsl, hnl, htk, htk2, hE, hfc, hel, hbn, hta, rfl⟩ := hJ
      (with_reducible refine W_consQ ?_; intro _ _ _; with_reducible refine W_Return ?_; with_reducible refine W_true ?_)
      exact Dr.id (h _ fun p hp => by have := hta.2 p hp; k_extra "mm")
theorem W_defB {C : Cst} {c : Fc} {m : Mp} {H : HL} {n : Nat} {f : Addr} {name qual : Str} {params : Arguments} {body : List Stmt} {scope : Scope} {dV kV doc pm cdv ct oc : Value} {an od : Option Addr} {osl : Array (Option Value)} {args : List Value} {binds : List (Str × Value)} {Q : Value → Mp → HL → Prop}
    (O : Ok C c (n + 1)) (ho : List.lookup f (Mine.kk C.w.params) = some ⟨oc, od, .func (fnOf name qual params body scope dV kV doc pm an cdv ct), osl⟩) (hcd : codeIn (Mine.kk C.w.params) cdv qual = true)
    (hb : bindArgs (fnOf name qual params body scope dV kV doc pm an cdv ct) ⟨args, []⟩ = pure binds) (hloc : (binds.all fun x => decide (scope.names.lookup x.1 = some .local)) = true)
    (h : ∀ dp un outer A₀ h₀ L, Ok C ⟨dp, un, qual, scope, f, cdv, [], outer, A₀, c.base, h₀, L⟩ n →
      W C ⟨dp, un, qual, scope, f, cdv, [], outer, A₀, c.base, h₀, L⟩ (mOf binds) H (execs body (Fc.env ⟨dp, un, qual, scope, f, cdv, [], outer, A₀, c.base, h₀, L⟩)) (SP (fun _ H' => Dr (Q .none m) H') (fun v _ H' => Dr (Q v m) H')))
    (hco : scope.isCoroutine = false) (hgen : scope.isGenerator = false) (hk : scope.kind = .function) (hcell : ∀ x ∈ scope.names, x.2 ≠ .cell) :
    W C c m H (call (.ref f) args) Q := fun g hh tk T F N => by
  obtain ⟨BG, st, DG, FG⟩ := enterG O T F N (A' := c.A) rfl
  have X := (O.K T).keeps F.keep
  refine wpAny_call (codeAny_call_def (fd := fnOf name qual params body scope dV kV doc pm an cdv ct) (body := body) (binds := binds) (by have := O.hd; exact Nat.lt_of_le_of_lt (Nat.le_add_right _ _) this) (X _ _ ho) rfl ((O.T T).nolimit.keeps F.keep) (codeRec_of X hcd) rfl (BindsTo.of_eq hb) hcell (locs hloc) (fun h₁ hns hk₁ => ?_) hco hgen hk)
  rw [mOf_eq] at hns
  have O' : Ok C ⟨c.dp + 1, c.un + 3, qual, scope, f, cdv, [], c.env :: c.outer, c.A, c.base, ghostFor hh H, hh.objs.size⟩ n := ⟨BG, DG, O.XB, O.TB, hk, by have := O.hd; simp only; omega, by have := O.hu; simp only; omega⟩
  refine (h _ _ _ _ _ _ O').run (tk := tk + binds.length) KtsTurn.refl ⟨hns, fun b o e => hk₁ b o (of_hideAll _ e), Nat.le_of_eq (hideAll_size _ _)⟩
    ⟨fun p hp => ⟨hk₁ _ _ (N.N p hp).1, Nat.ne_of_lt (Heap.lt_size (N.N p hp).1), hideAll_none _ (List.mem_map_of_mem hp)⟩, N.nd⟩ fun fl g' h' tk' m' H' T1 F1 N1 q => ?_
  obtain ⟨g2, T2, F2, N2⟩ := leaveG O T F N T1 F1 N1.N N1.nd
  cases fl with
  | next => obtain ⟨H2, l2, q⟩ := q; exact Po.in T2 F2 (N2.le l2) q
  | ret v => obtain ⟨H2, l2, q⟩ := q; exact Po.in T2 F2 (N2.le l2) q
  | brk => exact q.elim
  | cont => exact q.elim
theorem W_lenB {C : Cst} {c : Fc} {m : Mp} {H : HL} {n : Nat} {l : Addr} {items : Array Value} {Q : Value → Mp → HL → Prop} (O : Ok C c n) (hL : c.base.IsList l items) (hz : (items.size : Int) < 2 ^ 63) (h : ∀ t, Q (.int items.size t) m H) : W C c m H (call (.builtin "len") [.ref l]) Q := fun g hh tk T F N => by
  obtain ⟨o, e, r⟩ := hL
  exact call_len_list (items := items) ⟨o, F.keep _ _ ((O.B T).stays _ _ e), r⟩ hz (Po.in (tk := tk + 2) T F N (h _))
theorem W_itemB {C : Cst} {c : Fc} {m : Mp} {H : HL} {n : Nat} {value slice : Expr} {l : Addr} {items : Array Value} {k : Int} {u : Tok} {v : Value} {Q : Value → Mp → HL → Prop} (O : Ok C c n) (hL : c.base.IsList l items) (h0 : 0 ≤ k) (hx : items[k.toNat]? = some v) (h : Q v m H)
    (hhi : k < 2 ^ 63 := by decide)
    (hs : subscripted slice false (.ref l) (.int k u) = operate [.ref l, .int k u] (getItem (.ref l) (.int k u)) := by with_unfolding_all rfl) : W C c m H (subscriptTail value slice (.ref l) (.int k u)) Q := fun g hh tk T F N => by
  obtain ⟨o, e, r⟩ := hL
  have hL : hh.IsList l items := ⟨o, F.keep _ _ ((O.B T).stays _ _ e), r⟩
  exact tail_any hL.typeIs slot_list_getitem.lookup (wpAny_getItem_list hL h0 hhi hx (Po.in T F N h)) hs
theorem W_pow {C : Cst} {c : Fc} {m : Mp} {H : HL} {a b : Int} {t u : Tok} {Q : Value → Mp → HL → Prop} (hn : 0 ≤ b) (hn2 : b ≤ 1000000) (ha : a.natAbs < 2 ^ 64) (h : ∀ t, Q (.int (a ^ b.toNat) t) m H) : W C c m H (binaryOp .Pow (.int a t) (.int b u)) Q :=
  fun _ _ tk T F N => PyProof.Rows.pow_int_small hn hn2 ha (Po.in (tk := tk + 1) T F N (h _))
theorem sp_pool {C : Cst} {c : Fc} {n : Nat} {m : Mp} {H : HL} (O : Ok C c (n + 1)) {l : Addr} {vs : List Value} {ns : List Int} {t : Tok} {Q : Value → Mp → HL → Prop} (hL : c.base.IsList l vs.toArray) (hI : IntsAre vs ns) (hz : ns.length < 100) (h : ∀ a o, IsSrc o → Q (.ref a) m ((a, o) :: H)) :
    W C c m H (call (.ref 340) [.ref l, .int 0 t]) Q := by
  have hvl := hI.length
  refine' W_defB (n := n) (binds := [("script", .ref l), ("k", .int 0 t)]) O ?ho ?hcd ?hb ?hl ?_ ?c1 ?c2 ?c3 ?c4
  ((try case hm => k_is); (try case hi => k_is); (try case hf => k_is); (case ho => k_is); (case hcd => k_is); (case hb => first | rfl | exact fun _ => rfl); (try case hl => first | rfl | exact fun _ => rfl); (try case hkd => rfl); (try case hnd => decide); (try case eL => rfl); (try case eC => rfl); (case c1 => rfl); (case c2 => rfl); (case c3 => rfl); (try case c4 => decide); intros; (try simp only [mOf, List.foldl]); (first | (refine W.letE ?_; intro _ _ _) | (refine WX.letE ?_; intro _ _ _ _)))
  (with_reducible refine W_consQ ?_; intro _ _ _)
  (with_reducible refine W_assignN ?_; intro _)
  (with_reducible refine W_int ?_; intro _)
  refine W_cutS (fun m1 H1 => H1 = H ∧ ∃ x t1, m1 "cell" = some (.int x t1) ∧ m1 "k" = some (.int 0 t)) ?_ ?_
  · (with_reducible refine W_If ?_; intro _; with_reducible refine W_isTrue_Compare ?_; intro _; with_reducible refine W_local ?_; with_reducible refine W_CallName ?_; intro _; with_reducible refine W_bltn ?_; with_reducible refine W_callB0 ?_; intro _; with_reducible refine W_itemsL ?_; intro _; with_reducible refine W_items_nil ?_)
    refine W_lenB (by assumption) hL (by simp; omega) fun t2 => ?_
    (with_reducible refine W_lt ?_; with_reducible refine W_truthy_bool ?_)
    refine ⟨fun q => ?_, fun q => ?_⟩
    · have q := of_decide_eq_true q
      obtain ⟨x, t3, hx⟩ : ∃ x t3, vs[0]? = some (.int x t3) := by
        cases hI with
        | nil => simp at q
        | cons x t3 _ => exact ⟨x, t3, rfl⟩
      (with_reducible refine W_consQ ?_; intro _ _ _; with_reducible refine W_assignN ?_; intro _; with_reducible refine W_Subscript ?_; intro _; with_reducible refine W_local ?_; with_reducible refine W_local ?_)
      refine W_itemB (v := .int x t3) (by assumption) hL (by decide) (by simpa using hx) ?_
      (with_reducible refine W_nil ?_)
      exact ⟨rfl, x, _, by k_extra "lk", by k_extra "lk"⟩
    · (with_reducible refine W_nil ?_)
      exact ⟨rfl, 0, _, by k_extra "lk", by k_extra "lk"⟩
  rintro m1 H1 ⟨rfl, x, t1, e1, e2⟩
  (with_reducible refine W_consQ ?_; intro _ _ _; with_reducible refine W_assignN ?_; intro _; with_reducible refine W_CallName ?_; intro _; with_reducible refine W_bltn ?_; with_reducible refine W_callB0 ?_; intro _; with_reducible refine W_items_cons ?_; intro _; with_reducible refine W_CallName ?_; intro _; with_reducible refine W_bltn ?_; with_reducible refine W_callT ?_; intro _; with_reducible refine W_itemsL ?_; intro _; with_reducible refine W_items_nil ?_; with_reducible refine W_int_int ?_; with_reducible refine W_items_cons ?_; intro _; with_reducible refine W_CallName ?_; intro _; with_reducible refine W_bltn ?_; with_reducible refine W_callT ?_; intro _; with_reducible refine W_items_cons ?_; intro _; with_reducible refine W_BinOp ?_; intro _)
  with_reducible refine W_negLit ?_
  (with_reducible refine W_int ?_; intro _)
  refine ⟨_, _, rfl, fun t2 => ?_⟩
  (with_reducible refine W_local ?_; with_reducible refine W_sub ?_; intro _; with_reducible refine W_items_nil ?_; with_reducible refine W_int_int ?_; with_reducible refine W_items_nil ?_)
  refine W_max2 (by assumption) rfl fun t8 => ?_
  (with_reducible refine W_consQ ?_; intro _ _ _; with_reducible refine W_assignN ?_; intro _; with_reducible refine W_BinOp ?_; intro _; with_reducible refine W_CallName ?_; intro _; with_reducible refine W_bltn ?_; with_reducible refine W_callT ?_; intro _; with_reducible refine W_items_cons ?_; intro _; with_reducible refine W_BinOp ?_; intro _; with_reducible refine W_BinOp ?_; intro _; with_reducible refine W_BinOp ?_; intro _; with_reducible refine W_BinOp ?_; intro _; with_reducible refine W_BinOp ?_; intro _; with_reducible refine W_CallName ?_; intro _; with_reducible refine W_bltn ?_; with_reducible refine W_callT ?_; intro _; with_reducible refine W_itemsL ?_; intro _; with_reducible refine W_items_nil ?_; with_reducible refine W_int_int ?_; with_reducible refine W_int ?_; intro _)
  refine W_mod (by decide) fun t9 => ?_
  (with_reducible refine W_BinOp ?_; intro _; with_reducible refine W_BinOp ?_; intro _; with_reducible refine W_int ?_; intro _; with_reducible refine W_local ?_)
  refine W_mul (IntMulOk.of_right (by decide +kernel)) fun t10 => ?_
  (with_reducible refine W_local ?_)
  refine W_mul (IntMulOk.of_right (by decide +kernel)) fun t11 => ?_
  (with_reducible refine W_add ?_; intro _; with_reducible refine W_BinOp ?_; intro _; with_reducible refine W_int ?_; intro _; with_reducible refine W_local ?_)
  refine W_mul (IntMulOk.of_right (by decide +kernel)) fun t12 => ?_
  (with_reducible refine W_add ?_; intro _; with_reducible refine W_int ?_; intro _; with_reducible refine W_add ?_; intro _; with_reducible refine W_int ?_; intro _)
  refine W_mul (IntMulOk.of_right (by decide +kernel)) fun t13 => ?_
  (with_reducible refine W_items_nil ?_; with_reducible refine W_int_int ?_; with_reducible refine W_int ?_; intro _)
  refine W_mod (by decide) fun t14 => ?_
  (with_reducible refine W_consQ ?_; intro _ _ _; with_reducible refine W_Return ?_; with_reducible refine W_List ?_; intro _; with_reducible refine W_items_cons ?_; intro _; with_reducible refine W_BinOp ?_; intro _; with_reducible refine W_local ?_; with_reducible refine W_CallName ?_; intro _; with_reducible refine W_bltn ?_; with_reducible refine W_callT ?_; intro _; with_reducible refine W_items_cons ?_; intro _; with_reducible refine W_Compare ?_; intro _; with_reducible refine W_local ?_; with_reducible refine W_BinOp ?_; intro _; with_reducible refine W_int ?_; intro _; with_reducible refine W_int ?_; intro _)
  refine W_pow (by decide) (by decide) (by decide) fun t15 => ?_
  (with_reducible refine W_ge ?_; with_reducible refine W_items_nil ?_; with_reducible refine W_int_bool ?_; intro _)
  refine W_mul (IntMulOk.of_right (by split <;> decide +kernel)) fun t16 => ?_
  (with_reducible refine W_itemsL ?_; intro _; with_reducible refine W_items_nil ?_; with_reducible refine W_newList ?_; intro _)
  exact Dr.id (h _ _ ⟨_, _, _, _, 0, rfl, fm0 (by decide), fm1 (by decide)⟩)
theorem trip_range {r0 r1 r2 : Bool} : (((List.range (min 3 3)).all fun j => if j = 0 then r0 else if j = 1 then r1 else r2) && (3 == 3)) = (r0 && r1 && r2) := by
  show ((List.range 3).all _ && true) = _
  simp [List.range_succ, Bool.and_assoc]
theorem EqL.rc3 {C : Cst} {c : Fc} {H : HL} {k : Nat} {x0 x1 x2 y0 y1 y2 : Value} {r0 r1 r2 : Bool} (h0 : EqL C c H k x0 y0 r0) (h1 : EqL C c H k x1 y1 r1) (h2 : EqL C c H k x2 y2 r2)
    (A : Around) (g h : Heap) (tk : Nat) (hA : A.handled = none) (hu : A.units + (k + 1) < cLine) (N : Led g c h H) : ∀ j (j1 : j < [x0, x1, x2].toArray.size) (j2 : j < [y0, y1, y2].toArray.size), SeqAt.EqAt A.in1 (C.sh h tk) [x0, x1, x2].toArray[j] [y0, y1, y2].toArray[j] (if j = 0 then r0 else if j = 1 then r1 else r2) := fun j j1 j2 => by
  have hu1 : A.in1.units + k < cLine := by show A.units + 1 + k < cLine; omega
  have z : j = 0 ∨ j = 1 ∨ j = 2 := by simp at j1; omega
  rcases z with rfl | rfl | rfl
  · exact h0 A.in1 g h tk hA hu1 N
  · exact h1 A.in1 g h tk hA hu1 N
  · exact h2 A.in1 g h tk hA hu1 N
theorem EqL.nils {C : Cst} {c : Fc} {H : HL} {k : Nat} {a b : Addr} (ha : (a, tupOf []) ∈ H) (hb : (b, tupOf []) ∈ H) : EqL C c H (k + 1) (.ref a) (.ref b) true := fun A g h tk hA hu N => by
  by_cases z : a = b
  · subst z; exact SeqAt.EqAt.same _
  · exact SeqAt.EqAt.of_refs z (SeqAt.RcAt.tuples (s := C.sh h tk) (e := fun _ => true) ⟨_, N.get ha, rfl, 0, rfl⟩ ⟨_, N.get hb, rfl, 0, rfl⟩ (show A.units < cLine by omega) fun j j1 => absurd j1 (Nat.not_lt_zero _))
theorem W_neTrip {C : Cst} {c : Fc} {n : Nat} {m : Mp} {H : HL} (O : Ok C c (n + 1)) {a b : Addr} {x0 x1 x2 y0 y1 y2 : Value} {r0 r1 r2 : Bool} {Q : Value → Mp → HL → Prop} (ha : (a, tupOf [x0, x1, x2]) ∈ H) (hb : (b, tupOf [y0, y1, y2]) ∈ H) (h0 : EqL C c H 8 x0 y0 r0) (h1 : EqL C c H 8 x1 y1 r1) (h2 : EqL C c H 8 x2 y2 r2)
    (h : Q (.bool (!(r0 && r1 && r2))) m H) : W C c m H (compareOp .NotEq (.ref a) (.ref b)) Q := fun _ hh tk T F N => by
  have hu : c.A.units + (8 + 1) < cLine := by have := O.hu; show c.un + 9 < cLine; omega
  have rc := SeqAt.RcNeAt.tuples (s := C.sh hh tk) ⟨_, N.get ha, rfl, 0, rfl⟩ ⟨_, N.get hb, rfl, 0, rfl⟩ (show c.A.units < cLine by omega) (EqL.rc3 h0 h1 h2 c.A _ hh tk rfl hu N)
  exact (trip_range ▸ rc) _ _ _ _ (Po.in T F N h)
theorem sp_putNil {C : Cst} {c : Fc} {n : Nat} {m : Mp} {H : HL} (O : Ok C c (n + 2)) (hdp : c.dp = 304) (hun : c.un = 13) {st k w : Value} {Q : Value → Mp → HL → Prop} {P : Addr → Mp → HL → Prop}
    (hE : ∀ dx H', (∀ R : Value → HL → Prop, (∀ a t1 t2 H2, (∀ p ∈ H, p ∈ H2) → R (.ref a) ((a, tupOf [.str "panic" t1, .bytes txNil.toArray t2]) :: H2)) → Told dx R H') → (∀ p ∈ H, p ∈ H') → P dx m H') :
    WZ C c m H (call (.ref 265) [st, .none, k, w]) Q P := by
  refine' WZ_def (n := n + 1) (binds := [("self", st), ("value", .none), ("key", k), ("told", w)]) O ?ho ?hcd ?hb ?hl ?_ ?c1 ?c2 ?c3 ?c4
  ((try case hm => k_is); (try case hi => k_is); (try case hf => k_is); (case ho => k_is); (case hcd => k_is); (case hb => first | rfl | exact fun _ => rfl); (try case hl => first | rfl | exact fun _ => rfl); (try case hkd => rfl); (try case hnd => decide); (try case eL => rfl); (try case eC => rfl); (case c1 => rfl); (case c2 => rfl); (case c3 => rfl); (try case c4 => decide); intros; (try simp only [mOf, List.foldl]); (first | (refine W.letE ?_; intro _ _ _) | (refine WX.letE ?_; intro _ _ _ _)))
  refine WX_cons (WX_IfC True ?_ (fun _ => ?_) fun hc => absurd trivial hc)
  · (with_reducible refine W_isNoneN ?_)
    exact ⟨⟨fun _ => trivial, fun _ => rfl⟩, rfl, rfl⟩
  · refine WX_cons (WX_Raise (by assumption) (kts71 C) ?_)
    (with_reducible refine W_callG ?_; intro _; with_reducible refine W_items_cons ?_; intro _; with_reducible refine W_str ?_; intro _; with_reducible refine W_items_nil ?_)
    refine sp_panic (bs := txNil) (by assumption) (fun h₀ tk X => ?_) fun e dx v0 v2 v3 v4 v5 sl H' ht hs => ?_
    · rotate_left
      show wpAny (model PySem.Challenge.rw_on0025_01.prog C.w) { handled := none, depth := c.dp + 1, frames := some (_ :: _), guards := some [], units := c.un + 3 } _ _ _ _
      rw [hdp, hun]
      exact xnil C _ h₀ tk X
    · exact ⟨e, dx, v0, v2, v3, v4, v5, sl, H', rfl, .rfl, hE dx H' ht hs⟩
theorem PairsAt.ts {F F' : HL} {ws : List Win} {ps : List Value} (h : PairsAt F ws ps) (s : TSub F F') : PairsAt F' ws ps := by
  induction h with
  | nil => exact .nil
  | cons h1 h2 h3 _ ih => exact .cons (s _ _ h1) (h2.ts s) (h3.ts s) ih
theorem Inv.sub {G G' : HL} {src pl st rl : Addr} {R : List (List Int)} {ws : List Win} {t : Nat} {H : HL} (h : Inv G src pl st rl R ws t H) (s : ∀ p ∈ G, p ∈ G') : Inv G' src pl st rl R ws t H := by
  obtain ⟨o, ps, ep, tp, te, A, B, F, rfl, I⟩ := h
  have s' : ∀ p ∈ F ++ G, p ∈ F ++ G' := fun p hp => (List.mem_append.mp hp).elim (List.mem_append_left _) fun q => List.mem_append_right _ (s p q)
  exact ⟨o, ps, ep, tp, te, A, B, F, rfl, I.s, I.a, I.b, I.p.sub s', I.tp.sub s', I.te.sub s', I.k⟩
theorem TabS.off {qual : Str} {line col : Int} {o : Obj} {F F' : HL} (h : TabS qual line col o F) (s : ∀ a oc q, (a, oc) ∈ F → CodeOf oc q → (a, oc) ∈ F') : TabS qual line col o F' := by
  rcases h with h | ⟨c', oc, h1, h2, h3⟩
  · exact .inl h
  · exact .inr ⟨c', oc, h1, s _ _ _ h2 h3, h3⟩
theorem Inv.off {G : HL} {p : Addr × Obj} {src pl st rl : Addr} {R : List (List Int)} {ws : List Win} {t : Nat} {H : HL} (h : Inv (p :: G) src pl st rl R ws t H) (h1 : ∀ vs, p.2 ≠ tupOf vs) (h2 : ∀ q, ¬ CodeOf p.2 q) : Inv G src pl st rl R ws t H := by
  obtain ⟨o, ps, ep, tp, te, A, B, F, rfl, I⟩ := h
  have s1 : TSub (F ++ p :: G) (F ++ G) := fun a vs hm => by
    rcases List.mem_append.mp hm with q | q
    · exact List.mem_append_left _ q
    · rcases List.mem_cons.mp q with q | q
      · exact absurd (congrArg Prod.snd q).symm (h1 vs)
      · exact List.mem_append_right _ q
  have s2 : ∀ a oc q, (a, oc) ∈ F ++ p :: G → CodeOf oc q → (a, oc) ∈ F ++ G := fun a oc q0 hm hc => by
    rcases List.mem_append.mp hm with q | q
    · exact List.mem_append_left _ q
    · rcases List.mem_cons.mp q with q | q
      · exact absurd (show CodeOf p.2 q0 from (congrArg Prod.snd q) ▸ hc) (h2 q0)
      · exact List.mem_append_right _ q
  exact ⟨o, ps, ep, tp, te, A, B, F, rfl, I.s, I.a, I.b, I.p.ts s1, I.tp.off s2, I.te.off s2, I.k⟩
theorem sp_standsI {C : Cst} {c : Fc} {n : Nat} {m : Mp} {H0 G : HL} (O : Ok C c (n + 12)) {src pl st rl : Addr} {R : List (List Int)} {ws : List Win} {t : Nat} {Q : Value → Mp → HL → Prop} (ht : t ≤ 12)
    (hI : Inv G src pl st rl R ws t H0) (h : ∀ H', Inv G src pl st rl R ws t H' → Q (.bool true) m (H' ++ G)) : W C c m (H0 ++ G) (call (.ref 375) [.ref st, .ref pl, .ref rl]) Q := by
  obtain ⟨o, ps, ep, tp, te, A, B, F, rfl, I⟩ := hI
  rw [LL_app]
  have hrl := I.k.rl
  have hb := bnd_12 ht
  refine W.dr (sp_stands (A := A) (B := B) (F := (src, o) :: (pl, lstOf ps ep) :: (377, tp) :: (394, te) :: (F ++ G)) (ws := ws) (R := R) O (by k_extra "pk") (by k_extra "pk") I.a I.b (.tail _ (.head _)) (I.p.sub fun p hp => .tail _ (.tail _ (.tail _ (.tail _ hp)))) I.k.win (by omega) (fun xs hx => Nat.le_trans (I.k.xl xs hx) (by omega)) ?_)
  have z := h _ ⟨o, ps, ep, tp, te, A, B, F, rfl, I⟩
  rw [LL_app] at z
  exact ⟨_, by k_extra "le", z⟩
theorem rngIt_nt {i k : Nat} : ∀ vs, rngIt i k ≠ tupOf vs := fun vs h => nomatch (congrArg Obj.data h)
theorem rngIt_nc {i k : Nat} : ∀ q, ¬ CodeOf (rngIt i k) q := by
  rintro q ⟨vs, t, h1, h2⟩
  have h1 : (#[rawInt i, rawInt ((k : Int) - i), rawInt 1] : Array Value) = vs := by
    have := h1
    unfold rngIt at this
    injection this
  subst h1
  simp [rawInt] at h2
theorem W.runT {C : Cst} {c : Fc} {α : Type} {m : Mp} {H : HL} {t : Sem α} {Q : α → Mp → HL → Prop} (_ : Top C.p C.loose C.mean C.mg C.mb c.base) (x : W C c m H t Q) {g h : Heap} {tk : Nat} (T : KtsTurn c.fs c.h₀ g) (F : Fr g c.L h m) (N : Led g c h H) {Q' : α → Shared → Prop} {E : Value → Shared → Prop}
    (k : ∀ a g' h' tk' m' H', KtsTurn c.fs c.h₀ g' → Fr g' c.L h' m' → Led g' c h' H' → Q a m' H' → Q' a (C.sh h' tk')) : wpAny C.M c.A t Q' E (C.sh h tk) := x.run T F N k
theorem W.env {C : Cst} {c : Fc} {m : Mp} {H : HL} {body : List Stmt} {env : Env} {Q : Flow → Mp → HL → Prop} (e : env = c.env) (x : W C c m H (execs body c.env) Q) : W C c m H (execs body env) Q := e ▸ x
theorem W.okI {C : Cst} {c : Fc} {n : Nat} {α : Type} {m : Mp} {H : HL} {t : Sem α} {Q : α → Mp → HL → Prop} (O : Ok C c n) (x : Ok C c n → W C c m H t Q) : W C c m H t Q := x O
theorem sp_takeI {C : Cst} {c : Fc} {n : Nat} {m : Mp} {H0 G : HL} (O : Ok C c (n + 1)) {src pl st rl : Addr} {R : List (List Int)} {ws : List Win} {t : Nat} {top : Int} {tt : Tok} {Q : Value → Mp → HL → Prop} (h0 : 0 < top) (h1 : top < 1000000)
    (hI : Inv G src pl st rl R ws t H0) (h : ∀ v t0 H', 0 ≤ v → v < top → Inv G src pl st rl R ws t H' → Q (.int v t0) m (H' ++ G)) : W C c m (H0 ++ G) (call (.ref 347) [.ref src, .int top tt]) Q := by
  obtain ⟨o, ps, ep, tp, te, A, B, F, rfl, I⟩ := hI
  rw [LL_app]
  refine W.dr (sp_takeP O (by k_extra "pk") I.s h0 h1 fun v t0 o' ho' hv0 hv1 => ?_)
  have z := h v t0 _ hv0 hv1 ⟨o', ps, ep, tp, te, A, B, F, rfl, ⟨ho', I.a, I.b, I.p, I.tp, I.te, I.k⟩⟩
  rw [LL_app] at z
  exact ⟨_, by k_extra "le", z⟩
theorem TabS.tab {qual : Str} {line col : Int} {o : Obj} {F : HL} (h : TabS qual line col o F) : ∃ ps, o = tabObj ps := by
  rcases h with rfl | ⟨c', oc, rfl, -, -⟩
  · exact ⟨_, rfl⟩
  · exact ⟨_, rfl⟩
theorem nt_tab {ps : Array Value} : ∀ vs, tabObj ps ≠ tupOf vs := fun vs h => nomatch (congrArg Obj.data h)
theorem joinS_law : joinS ([] ++ [[1, 2, 3, 0]]) (some (0, 0, 3, 4)) [7] = ([[1, 2, 3, 7]], some (0, 0, 4, 4)) := rfl
theorem Okk_law : Okk [[1, 2, 3, 7]] [none, some (0, 0, 3, 4), some (0, 0, 4, 4)] 0 := by
  refine ⟨fun w hw => ?_, by decide, by decide, by decide, nofun⟩
  simp only [List.mem_cons, List.not_mem_nil, or_false] at hw
  rcases hw with rfl | rfl | rfl
  · trivial
  · exact ⟨_, rfl, by decide, by decide⟩
  · exact ⟨_, rfl, by decide, by decide⟩
theorem Le_mid {p : Addr × Obj} {H G : HL} : Le (H ++ (p :: G)) ([p] ++ (H ++ G)) := .of_perm List.perm_middle
theorem Le_mid' {p : Addr × Obj} {H G : HL} : Le ([p] ++ (H ++ G)) (H ++ (p :: G)) := .of_perm (show (p :: (H ++ G)).Perm (H ++ p :: G) from List.perm_middle.symm)
theorem fin : PySem.Challenge.rw_on0025_01.Holds := by
  refine Mine.hd ?_
  k_fill
  intro w s₀ s₁ mg mb G Y fa o pm cd doc dV kV ho hd hcd hD hmg hg args vals as hpre hlay hrd hwl hlo
  have KX := kIn_of Y
  kn_any hmg
  have X := (Ground.X G).1
  have V := (Ground.X G).2
  refine Ground.open G ?_
  intro T B D TE TW
  try (refine guard_noD D (by decide +kernel) ?_; clear D)
  kn_lay T hmg ho hd cd
  clear hmg
  wrow_args hpre hlay hrd hwl hlo
  first | refine callC_kw (enter_call ?_) | refine enter_call ?_
  w_top on
  kn_posts
  w_call any ho hd hcd hD T F
  clear hd
  rename News _ _ _ _ => N
  rename Frag.In _ _ => XX
  rename Heap.IsList _ _ _ => hL
  rename IntsAre _ _ => hI
  rename ¬ _ => hcond
  rename _ = Data.cell _ => hcell
  rename_i ns hsx hl0 hLx hrx hl2 wl5 wl4 la vs wl1 ra w1x r0 hr hcc h₁ tk₁ oC X0
  have l0 := ghost_lt hT9 F
  have X' := Mine.ghost_KA XX
  have T' := ghost_top hT9 T
  have K' := ghost_below hT9
  have N' := ghost_news hT9 F N
  have F' := ghost_fr hT9 F
  have hL' := ghost_list hT9 hL
  simp only [tabNews, List.map_cons, List.map_nil, List.nil_append, List.cons_append] at N'
  simp only [tabNews, List.map_cons, List.map_nil] at l0
  clear N XX F
  have n1 : (377 : Nat) < s₁.heap.objs.size := l0 _ (.head _)
  have n2 : (394 : Nat) < s₁.heap.objs.size := l0 _ (.tail _ (.head _))
  have n3 : (408 : Nat) < s₁.heap.objs.size := l0 _ (.tail _ (.tail _ (.head _)))
  have n4 : (413 : Nat) < s₁.heap.objs.size := l0 _ (.tail _ (.tail _ (.tail _ (.head _))))
  refine Mine.W.runT (C := ⟨w, topProg, _, ExcName.means s₀.heap, mg, mb, s₁.gens, s₁.drawn, s₁.os⟩) (c := ⟨302, 7, _, _, fa, .ref 417, _, [], callerA, ghostOf s₁.heap [(379, 377), (398, 394), (410, 408), (417, 413)], ghostOf s₁.heap [(379, 377), (398, 394), (410, 408), (417, 413)], s₁.heap.objs.size⟩) (m := Mine.upd Mine.emp "script" (.ref la)) (H := [(s₁.heap.objs.size + 1, oC), (377, tabObj #[]), (394, tabObj #[]), (408, tabObj #[]), (413, tabObj #[])])
    (Q := Mine.SP (fun _ _ => False) (fun v _ H' => v = .bool true ∧ (∃ ps, (377, tabObj ps) ∈ H') ∧ (∃ ps, (394, tabObj ps) ∈ H') ∧ (∃ ps, (408, tabObj ps) ∈ H') ∧ ∃ ps, (413, tabObj ps) ∈ H')) T' ?main KtsTurn.refl F' ⟨N', ?nd⟩ ?post
  case nd =>
    generalize s₁.heap.objs.size = z at n1 n2 n3 n4
    show List.Nodup ([z + 1, 377, 394, 408, 413] : List Nat)
    simp only [List.nodup_cons, List.mem_cons, List.not_mem_nil, or_false, not_or, List.nodup_nil, and_true, not_false_eq_true]
    omega
  case post =>
    rintro fl g' h' tk' m' H' T1 F1 N1 q
    cases fl with
    | ret v =>
      obtain ⟨rfl, ⟨p1, q1⟩, ⟨p2, q2⟩, ⟨p3, q3⟩, p4, q4⟩ := q
      exact ⟨⟨.inl ⟨.bool true, _, [], rfl, fun _ => rfl, .bool _, by kernel_rfl, fun _ => ⟨.nil, nofun⟩⟩, fun b o e => F1.keep b o (T1.other b o e nofun), rfl, hg⟩, ⟨p1, N1.get q1⟩, ⟨p2, N1.get q2⟩, ⟨p3, N1.get q3⟩, ⟨p4, N1.get q4⟩, trivial⟩
    | next => exact q.elim
    | brk => exact q.elim
    | cont => exact q.elim
  case main =>
    have dC : oC.data = .cell none := hcell
    clear hcell X0 N' F'
    dsimp only
    refine W.env rfl ?_
    refine W.okI (n := 20) ⟨K', nofun, X', T', rfl, by show 302 + 2 * 20 < recursionLimit; decide, by show 7 + 10 * 20 < cLine; decide⟩ fun O => ?_
    generalize s₁.heap.objs.size = L0 at O ⊢
    generalize ghostOf s₁.heap [(379, 377), (398, 394), (410, 408), (417, 413)] = gh at O hL' ⊢
    generalize (Cst.mk _ _ _ _ _ _ _ _ _) = C at O ⊢
    refine W.letE ?_; intro _ _ _
    (with_reducible refine W_consQ ?_; intro _ _ _; with_reducible refine W_AssignTuple ?_; intro _; with_reducible refine W_Tuple ?_; intro _; with_reducible refine W_items_cons ?_; intro _; with_reducible refine W_callG ?_; intro _; with_reducible refine W_items_cons ?_; intro _)
    refine W_lamNew (PT := 413) (ps := #[]) (g := fun o' => (L0 + 1, oC) :: (377, tabObj #[]) :: (394, tabObj #[]) :: (408, tabObj #[]) :: [(413, o')]) (by assumption) rfl (by kernel_rfl) (fun _ => .tail (.tail (.tail (.tail .head)))) True.intro rfl rfl rfl fun f c' oc ctv pm hoc => ?_
    (with_reducible refine W_items_nil ?_)
    refine sp_newStore (n := 17) (by assumption) fun st ds oS ca rlS ma hfS => ?_
    (with_reducible refine W_items_cons ?_; intro _; with_reducible refine W_List ?_; intro _; with_reducible refine W_items_cons ?_; intro _; with_reducible refine W_List ?_; intro _; with_reducible refine W_itemsI ?_; intro _ _; with_reducible refine W_itemsI ?_; intro _ _; with_reducible refine W_itemsI ?_; intro _ _; with_reducible refine W_itemsI ?_; intro _ _; with_reducible refine W_items_nil ?_; with_reducible refine W_newList ?_; intro _; with_reducible refine W_items_nil ?_; with_reducible refine W_newList ?_; intro _; with_reducible refine W_items_nil ?_; with_reducible refine W_newTuple ?_; intro _; with_reducible refine W_unpack ?_; with_reducible refine W_eachName ?_)
    rename_i tk1 _ tk2 _ tk3 _ tk4 _ r0 rl tu
    refine W.le (H' := (L0 + 1, oC) :: [(st, instObj 275 ds), (ds, oS), (rlS, lstOf [] 0)] ++ ((rl, lstOf [.ref r0] 0) :: (r0, lstOf [.int 1 tk1, .int 2 tk2, .int 3 tk3, .int 0 tk4] 0) :: (377, tabObj #[]) :: (394, tabObj #[]) :: (408, tabObj #[]) :: (413, tabObj (#[] ++ #[rawInt 308, rawInt 30, .ref c'])) :: [])) (by k_extra "le") ?_
    refine W_storeCP (o := oC) rfl (by k_extra "p1") dC (fun oC' dC' => ?_)
    (with_reducible refine W_eachName ?_; with_reducible refine W_store ?_; with_reducible refine W_eachNil ?_; with_reducible refine W_consQ ?_; intro _ _ _; with_reducible refine W_assignN ?_; intro _; with_reducible refine W_Tuple ?_; intro _; with_reducible refine W_items_cons ?_; intro _; with_reducible refine W_str ?_; intro _; with_reducible refine W_items_cons ?_; intro _; with_reducible refine W_Tuple ?_; intro _; with_reducible refine W_items_cons ?_; intro _; with_reducible refine W_str ?_; intro _; with_reducible refine W_items_cons ?_; intro _; with_reducible refine W_Method ?_; intro _; with_reducible refine W_cell ?_; with_reducible refine W_method ?_; with_reducible refine W_callK ?_; intro _; with_reducible refine W_items_cons ?_; intro _; with_reducible refine W_List ?_; intro _; with_reducible refine W_itemsI ?_; intro _ _; with_reducible refine W_itemsI ?_; intro _ _; with_reducible refine W_itemsI ?_; intro _ _; with_reducible refine W_itemsI ?_; intro _ _; with_reducible refine W_items_nil ?_; with_reducible refine W_newList ?_; intro _; with_reducible refine W_items_nil ?_)
    rename_i ta1 _ _ _ ta2 _ _ _ _ _ ta3 _ ta4 _ ta5 _ ta6 _ l1
    have hS0 : StB st [] [(st, instObj 275 ds), (ds, oS), (rlS, lstOf [] 0)] := ⟨ds, oS, _, ca, rlS, ma, 4, _, rfl, hfS, [], 0, [], rfl, .nil⟩
    refine sp_newRow (n := 19) (xs := [1, 2, 3, 0]) (by assumption) (by k_extra "pk") hS0 (by k_extra "mm") (.cons _ _ (.cons _ _ (.cons _ _ (.cons _ _ .nil)))) (by decide) (by decide) fun A1 t1 hS1 => ?_
    obtain ⟨ds1, oS1, mc1, ca1, rlS1, ma1, k1, X1, hA1, hfS1, hr1⟩ := id hS1
    subst hA1
    (with_reducible refine W_items_cons ?_; intro _; with_reducible refine W_Tuple ?_; intro _; with_reducible refine W_items_nil ?_; with_reducible refine W_newTuple ?_; intro _; with_reducible refine W_items_nil ?_; with_reducible refine W_newTuple ?_; intro _; with_reducible refine W_itemsI ?_; intro _ _; with_reducible refine W_itemsI ?_; intro _ _; with_reducible refine W_itemsI ?_; intro _ _; with_reducible refine W_items_nil ?_; with_reducible refine W_newTuple ?_; intro _; with_reducible refine W_consQ ?_; intro _ _ _; with_reducible refine W_assignN ?_; intro _; with_reducible refine W_Method ?_; intro _; with_reducible refine W_cell ?_; with_reducible refine W_method ?_; with_reducible refine W_callK ?_; intro _; with_reducible refine W_itemsL ?_; intro _; with_reducible refine W_items_cons ?_; intro _; with_reducible refine W_List ?_; intro _; with_reducible refine W_itemsI ?_; intro _ _; with_reducible refine W_items_nil ?_; with_reducible refine W_newList ?_; intro _; with_reducible refine W_itemsI ?_; intro _ _; with_reducible refine W_items_nil ?_)
    rename_i q0 p0 tb1 _ tb2 _ tb3 _ va _ _ _ _ _ _ _ _ _ tb4 _ ml tb5 _
    refine W.le (H' := ((st, instObj 275 ds1) :: (ds1, oS1) :: X1) ++ ((ml, lstOf [.int 7 tb4] 0) :: (L0 + 1, oC') :: (rl, lstOf [.ref r0] 0) :: (r0, lstOf [.int 1 tk1, .int 2 tk2, .int 3 tk3, .int 0 tk4] 0) :: (377, tabObj #[]) :: (394, tabObj #[]) :: (408, tabObj #[]) :: (413, tabObj (#[] ++ #[rawInt 308, rawInt 30, .ref c'])) :: [(va, tupOf [.str "slice" ta1, .ref p0, .int 0 tb1, .int 3 tb2, .int 4 tb3]), (p0, tupOf [.str "row" ta2, .int (([] : List (List Int)).length : Nat) t1, .ref q0]), (q0, tupOf [])])) (by k_extra "le") ?_
    refine sp_joined (n := 8) (w := some (0, 0, 3, 4)) (ys := [7]) (by assumption) Pk.head hS1 ⟨va, p0, q0, ta1, tb1, tb2, tb3, ta2, t1, rfl, by k_extra "mm", by k_extra "mm", by k_extra "mm"⟩ ⟨_, rfl, by decide, by decide⟩ (.head _) (.cons _ _ .nil) (by decide) (by decide) (by decide) fun A2 v2 X2 hS2 hv2 => ?_
    rw [joinS_law] at hS2 hv2
    obtain ⟨ds2, oS2, mc2, ca2, rlS2, ma2, k2, X3, hA2, hfS2, hr2⟩ := id hS2
    subst hA2
    have hv2 : SlV (some (0, 0, 4, 4)) v2 (X2 ++ [(va, tupOf [.str "slice" ta1, .ref p0, .int 0 tb1, .int 3 tb2, .int 4 tb3]), (p0, tupOf [.str "row" ta2, .int (([] : List (List Int)).length : Nat) t1, .ref q0]), (q0, tupOf [])]) :=
      hv2.ts (.app (.of fun p hp => List.mem_append_left _ hp) (.drop nt_lst (.drop (nt_dat dC' nofun) (.drop nt_lst (.drop nt_lst (.drop nt_tab (.drop nt_tab (.drop nt_tab (.drop nt_tab (.of fun p hp => List.mem_append_right _ hp))))))))))
    refine W.le (H' := (r0, lstOf [.int 1 tk1, .int 2 tk2, .int 3 tk3, .int 0 tk4] 0) :: (((st, instObj 275 ds2) :: (ds2, oS2) :: X3) ++ ((L0 + 1, oC') :: (rl, lstOf [.ref r0] 0) :: (377, tabObj #[]) :: (394, tabObj #[]) :: (408, tabObj #[]) :: (413, tabObj (#[] ++ #[rawInt 308, rawInt 30, .ref c'])) :: (X2 ++ [(va, tupOf [.str "slice" ta1, .ref p0, .int 0 tb1, .int 3 tb2, .int 4 tb3]), (p0, tupOf [.str "row" ta2, .int (([] : List (List Int)).length : Nat) t1, .ref q0]), (q0, tupOf [])])))) (by k_extra "le") ?_
    have hva : (va, tupOf [.str "slice" ta1, .ref p0, .int 0 tb1, .int 3 tb2, .int 4 tb3]) ∈ X2 ++ [(va, tupOf [.str "slice" ta1, .ref p0, .int 0 tb1, .int 3 tb2, .int 4 tb3]), (p0, tupOf [.str "row" ta2, .int (([] : List (List Int)).length : Nat) t1, .ref q0]), (q0, tupOf [])] := by k_extra "mm"
    have hp0 : (p0, tupOf [.str "row" ta2, .int (([] : List (List Int)).length : Nat) t1, .ref q0]) ∈ X2 ++ [(va, tupOf [.str "slice" ta1, .ref p0, .int 0 tb1, .int 3 tb2, .int 4 tb3]), (p0, tupOf [.str "row" ta2, .int (([] : List (List Int)).length : Nat) t1, .ref q0]), (q0, tupOf [])] := by k_extra "mm"
    have hq0 : (q0, tupOf []) ∈ X2 ++ [(va, tupOf [.str "slice" ta1, .ref p0, .int 0 tb1, .int 3 tb2, .int 4 tb3]), (p0, tupOf [.str "row" ta2, .int (([] : List (List Int)).length : Nat) t1, .ref q0]), (q0, tupOf [])] := by k_extra "mm"
    generalize (X2 ++ [(va, tupOf [.str "slice" ta1, .ref p0, .int 0 tb1, .int 3 tb2, .int 4 tb3]), (p0, tupOf [.str "row" ta2, .int (([] : List (List Int)).length : Nat) t1, .ref q0]), (q0, tupOf [])] : HL) = I0 at hv2 hva hp0 hq0 ⊢
    obtain ⟨ob, pb, qb, u1, u2, u3, u4, u5, u6, rfl, hob, hpb, hqb⟩ := id hv2
    (with_reducible refine W_consQ ?_; intro _ _ _; with_reducible refine W_AssignItem ?_; intro _; with_reducible refine W_int ?_; intro _; with_reducible refine W_Subscript ?_; intro _; with_reducible refine W_local ?_; with_reducible refine W_int ?_; intro _; with_reducible refine w_lstItem ?_; with_reducible refine W_int ?_; intro _)
    refine W_setItem (vs := [.int 1 tk1, .int 2 tk2, .int 3 tk3, .int 0 tk4]) (by decide) (by show (3 : Int) < 4; decide) .head ?_
    (with_reducible refine W_consQ ?_; intro _ _ _; with_reducible refine W_assignN ?_; intro _; with_reducible refine W_List ?_; intro _; with_reducible refine W_items_cons ?_; intro _; with_reducible refine W_Tuple ?_; intro _; with_reducible refine W_items_cons ?_; intro _; with_reducible refine W_none ?_; with_reducible refine W_items_cons ?_; intro _; with_reducible refine W_none ?_; with_reducible refine W_items_nil ?_; with_reducible refine W_newTuple ?_; intro _; with_reducible refine W_items_cons ?_; intro _; with_reducible refine W_Tuple ?_; intro _; with_reducible refine W_itemsL ?_; intro _; with_reducible refine W_items_cons ?_; intro _; with_reducible refine W_Tuple ?_; intro _; with_reducible refine W_itemsI ?_; intro _ _; with_reducible refine W_itemsI ?_; intro _ _; with_reducible refine W_itemsI ?_; intro _ _; with_reducible refine W_itemsI ?_; intro _ _; with_reducible refine W_items_nil ?_; with_reducible refine W_newTuple ?_; intro _; with_reducible refine W_items_nil ?_; with_reducible refine W_newTuple ?_; intro _; with_reducible refine W_items_cons ?_; intro _; with_reducible refine W_Tuple ?_; intro _; with_reducible refine W_itemsL ?_; intro _; with_reducible refine W_items_cons ?_; intro _; with_reducible refine W_Tuple ?_; intro _; with_reducible refine W_itemsI ?_; intro _ _; with_reducible refine W_itemsI ?_; intro _ _; with_reducible refine W_itemsI ?_; intro _ _; with_reducible refine W_itemsI ?_; intro _ _; with_reducible refine W_items_nil ?_; with_reducible refine W_newTuple ?_; intro _; with_reducible refine W_items_nil ?_; with_reducible refine W_newTuple ?_; intro _; with_reducible refine W_items_nil ?_; with_reducible refine W_newList ?_; intro _; with_reducible refine W_consQ ?_; intro _ _ _; with_reducible refine W_If ?_; intro _; with_reducible refine W_or ?_; intro _; with_reducible refine W_isTrue_Compare ?_; intro _; with_reducible refine W_tupL ?_; with_reducible refine W_tupL ?_)
    rename_i e7 _ e0 e3 _ _ _ _ _ _ _ _ _ pa1 _ _ _ _ _ w20 _ w21 _ w22 _ w23 _ wi2 pa2 _ _ _ _ _ w30 _ w31 _ w32 _ w33 _ wi3 pa3 pl _ _ _ _ _ _
    refine W_neTrip (n := 19) (by assumption) (by k_extra "mm") (by k_extra "mm") EqL.str EqL.int (EqL.nils (k := 7) (by k_extra "mm") (by k_extra "mm")) ?_
    rw [show (!(Str.ofString "row" == Str.ofString "row" && ((0 : Nat) : Int) == ((([] : List (List Int)).length : Nat) : Int) && true)) = false by decide]
    (with_reducible refine W_truthy_bool ?_; with_reducible refine w_condf ?_; with_reducible refine W_or ?_; intro _; with_reducible refine W_isTrue_Compare ?_; intro _; with_reducible refine W_callG ?_; intro _; with_reducible refine W_items_cons ?_; intro _)
    refine W.le (H' := (413, tabObj (#[] ++ #[rawInt 308, rawInt 30, .ref c'])) :: (L0 + 1, oC') :: (((st, instObj 275 ds2) :: (ds2, oS2) :: X3) ++ ((rl, lstOf [.ref r0] 0) :: (r0, lstOf [.int 1 tk1, .int 2 tk2, .int 3 tk3, .int 7 e7] 0) :: (377, tabObj #[]) :: (394, tabObj #[]) :: (408, tabObj #[]) :: (pl, lstOf [.ref pa1, .ref pa2, .ref pa3] 0) :: (pa1, tupOf [.none, .none]) :: (pa2, tupOf [.ref va, .ref wi2]) :: (wi2, tupOf [.int 0 w20, .int 0 w21, .int 3 w22, .int 4 w23]) :: (pa3, tupOf [.ref ob, .ref wi3]) :: (wi3, tupOf [.int 0 w30, .int 0 w31, .int 4 w32, .int 4 w33]) :: I0))) (by k_extra "le") ?_
    refine W_lamNew (PT := 413) (ps := #[] ++ #[rawInt 308, rawInt 30, .ref c']) (by assumption) rfl (by kernel_rfl) (fun _ => .head) (by simp [TriplesOk, rawInt]) (by simp [codeAmong, rawInt]) rfl rfl fun f2 c2 oc2 ctv2 pm2 hoc2 => ?_
    (with_reducible refine W_items_nil ?_)
    refine W.nd fun nd => ?_
    refine sp_heard (n := 19) (by assumption) (.head _) rfl fun cF m' hdp' hun' O' => ?_
    refine' WZ_callLam (n := 18) (binds := []) O' (.head _) (.tail _ (.head _)) hoc2 rfl rfl ?_ rfl rfl rfl (by decide)
    intro outer A₀ base h₀ L2 O2
    simp only [mOf, List.foldl]
    refine WX_Method ?_
    (with_reducible refine W_free ?_; with_reducible refine W_method ?_)
    refine WX_callK (by assumption) (by k_is) ?_
    (with_reducible refine W_items_cons ?_; intro _; with_reducible refine W_none ?_; with_reducible refine W_itemsI ?_; intro _ _; with_reducible refine W_itemsI ?_; intro _ _; with_reducible refine W_items_nil ?_)
    refine WZ.toX (sp_putNil (n := 16) (by assumption) (by show cF.dp + 1 = 304; rw [hdp']) (by show cF.un + 3 = 13; rw [hun']) fun dx H' hT hsub => ?_)
    refine hT _ fun a tt1 tt2 H2 hs2 => ?_
    refine W.le (Le.ofSub hs2 nd) ?_
    (with_reducible refine W_Tuple ?_; intro _; with_reducible refine W_items_cons ?_; intro _; with_reducible refine W_str ?_; intro _; with_reducible refine W_items_cons ?_; intro _; with_reducible refine W_bytes ?_; intro _; with_reducible refine W_items_nil ?_; with_reducible refine W_newTuple ?_; intro _)
    refine W_nePair (n := 19) (by assumption) (.tail _ (.head _)) (.head _) EqL.str EqL.bytes ?_
    (with_reducible refine W_truthy_bool ?_; with_reducible refine w_condf ?_; with_reducible refine W_or_nil ?_; with_reducible refine w_condf ?_; with_reducible refine W_nil ?_; with_reducible refine W_consQ ?_; intro _ _ _; with_reducible refine W_assignN ?_; intro _; with_reducible refine W_callG ?_; intro _; with_reducible refine W_itemsL ?_; intro _; with_reducible refine W_itemsI ?_; intro _ _; with_reducible refine W_items_nil ?_)
    refine sp_pool (n := 19) (by assumption) hL' hI (by omega) fun src oSrc hsrc => ?_
    (with_reducible refine W_consQ ?_; intro _ _ _)
    refine W_For ?_
    (with_reducible refine W_CallName ?_; intro _; with_reducible refine W_bltn ?_; with_reducible refine W_callT ?_; intro _; with_reducible refine W_items_cons ?_; intro _; with_reducible refine W_BinOp ?_; intro _; with_reducible refine W_int ?_; intro _; with_reducible refine W_callG ?_; intro _; with_reducible refine W_itemsL ?_; intro _; with_reducible refine W_itemsI ?_; intro _ _; with_reducible refine W_items_nil ?_)
    refine sp_takeP (n := 19) (by assumption) (by k_extra "pk") hsrc (by decide) (by decide) fun k tk o' ho' hk0 hk9 => ?_
    (with_reducible refine W_add ?_; intro _; with_reducible refine W_items_nil ?_)
    refine W_range (by omega) (by omega) fun it X1 hX1 => ?_
    have hva' : (va, tupOf [.str "slice" ta1, .ref p0, .int ((0 : Nat) : Int) tb1, .int ((3 : Nat) : Int) tb2, .int ((4 : Nat) : Int) tb3]) ∈ I0 := hva
    have hp0' : (p0, tupOf [.str "row" ta2, .int ((0 : Nat) : Int) t1, .ref q0]) ∈ I0 := hp0
    have hI0 : Inv0 st rl [[1, 2, 3, 7]] [none, some (0, 0, 3, 4), some (0, 0, 4, 4)] 0 o' [.ref pa1, .ref pa2, .ref pa3] (tabObj #[]) (tabObj #[]) ((st, instObj 275 ds2) :: (ds2, oS2) :: X3) [(rl, lstOf [.ref r0] 0), (r0, lstOf [.int 1 tk1, .int 2 tk2, .int 3 tk3, .int 7 e7] 0)] (((pa1, tupOf [.none, .none]) :: (pa2, tupOf [.ref va, .ref wi2]) :: (wi2, tupOf [.int 0 w20, .int 0 w21, .int 3 w22, .int 4 w23]) :: (pa3, tupOf [.ref ob, .ref wi3]) :: (wi3, tupOf [.int 0 w30, .int 0 w31, .int 4 w32, .int 4 w33]) :: I0) ++ [(L0 + 1, oC'), (408, tabObj #[]), (413, tabObj (#[] ++ #[rawInt 308, rawInt 30, .ref c'] ++ #[rawInt 313, rawInt 42, .ref c2]))]) :=
      ⟨ho', hS2, ⟨[r0], 0, _, rfl, .cons (.cons _ _ (.cons _ _ (.cons _ _ (.cons _ _ .nil)))) .nil⟩,
        .cons (.head _) rfl rfl (.cons (.tail _ (.head _)) ⟨va, p0, q0, _, _, _, _, _, _, rfl, by k_extra "mm", by k_extra "mm", by k_extra "mm"⟩ ⟨wi2, _, _, _, _, rfl, .tail _ (.tail _ (.head _))⟩ (.cons (.tail _ (.tail _ (.tail _ (.head _)))) (hv2.sub fun p hp => by k_extra "mm") ⟨wi3, _, _, _, _, rfl, .tail _ (.tail _ (.tail _ (.tail _ (.head _))))⟩ .nil)), .inl rfl, .inl rfl, Okk_law⟩
    refine ⟨_, _, _, _, it, X1, _, fun i m' H' => m' "source" = some (.ref src) ∧ m' "pairs" = some (.ref pl) ∧ m' "rows" = some (.ref rl) ∧ ∃ R ws H0, Inv [(L0 + 1, oC'), (408, tabObj #[]), (413, tabObj (#[] ++ #[rawInt 308, rawInt 30, .ref c'] ++ #[rawInt 313, rawInt 42, .ref c2]))] src pl st rl R ws i H0 ∧ H' = H0 ++ [(L0 + 1, oC'), (408, tabObj #[]), (413, tabObj (#[] ++ #[rawInt 308, rawInt 30, .ref c'] ++ #[rawInt 313, rawInt 42, .ref c2]))],
      ⟨rfl, It_range, ?le, hX1, trivial, by k_extra "lk", by k_extra "lk", by k_extra "lk", _, _, _, ⟨o', _, 0, _, _, _, _, _, rfl, hI0⟩, rfl⟩, ?_, ?_⟩
    case le =>
      rw [LL_app]
      simp only [List.cons_append, List.nil_append]
      k_extra "le"
    · rintro i v m' H' X' hlt ⟨⟨t, rfl⟩, hX'⟩ - ⟨e1, e2, e3, R, ws, H0, hI, rfl⟩
      clear hI0 hva' hp0' hva hp0 hq0 hv2 hob hpb hqb hS2 hfS2 hS1 hfS1 hr1 hr2
      obtain ⟨G, hG⟩ : ∃ G : HL, G = [(L0 + 1, oC'), (408, tabObj #[]), (413, tabObj (#[] ++ #[rawInt 308, rawInt 30, .ref c'] ++ #[rawInt 313, rawInt 42, .ref c2]))] := ⟨_, rfl⟩
      rw [← hG] at hI ⊢
      have hst : (L0 + 1, oC') ∈ G := hG ▸ .head _
      obtain rfl : X' = [(it, rngIt (i + 1) _)] := hX'
      generalize hro : rngIt (i + 1) (3 + k).toNat = ro
      have hI' := hI.sub (G' := (it, ro) :: G) (fun q hq => .tail _ hq)
      refine W.le Le_mid ?_
      generalize hG' : (it, ro) :: G = G' at hI' ⊢
      have hst' : (L0 + 1, oC') ∈ G' := hG' ▸ .tail _ hst
      with_reducible refine W_ownedName ?_
      (with_reducible refine W_assignName ?_; with_reducible refine W_store ?_; with_reducible refine W_consQ ?_; intro _ _ _; with_reducible refine W_assignN ?_; intro _; with_reducible refine W_callG ?_; intro _; with_reducible refine W_itemsL ?_; intro _; with_reducible refine W_itemsI ?_; intro _ _; with_reducible refine W_items_nil ?_)
      refine sp_takeI (n := 19) (by assumption) (by decide) (by decide) hI' fun wv tw H1 hw0 hw7 hI1 => ?_
      refine W_cutS (fun m1 H2 => m1 "is_right" = some (.bool true) ∧ m1 "source" = some (.ref src) ∧ m1 "pairs" = some (.ref pl) ∧ m1 "rows" = some (.ref rl) ∧ ∃ R ws H3, Inv G' src pl st rl R ws (i + 1) H3 ∧ H2 = H3 ++ G') ?_ ?_
      · (with_reducible refine W_If ?_; intro _; with_reducible refine W_isTrue_Compare ?_; intro _; with_reducible refine W_local ?_; with_reducible refine W_int ?_; intro _; with_reducible refine W_lt ?_; with_reducible refine W_truthy_bool ?_)
        refine ⟨fun q => ?_, fun q => ?_⟩
        · (with_reducible refine W_consQ ?_; intro _ _ _; with_reducible refine W_assignN ?_; intro _; with_reducible refine W_callG ?_; intro _; with_reducible refine W_itemsL ?_; intro _; with_reducible refine W_items_cons ?_; intro _; with_reducible refine W_cell ?_; with_reducible refine W_itemsL ?_; intro _; with_reducible refine W_itemsL ?_; intro _; with_reducible refine W_items_nil ?_)
          refine sp_lawPart (n := 4) (by assumption) rfl rfl (by omega) hI1 fun R' ws' H2 hI2 => ?_
          (with_reducible refine W_nil ?_)
          exact ⟨by k_extra "lk", by k_extra "lk", by k_extra "lk", by k_extra "lk", R', ws', H2, hI2, rfl⟩
        · (with_reducible refine W_consQ ?_; intro _ _ _; with_reducible refine W_If ?_; intro _; with_reducible refine W_isTrue_Compare ?_; intro _; with_reducible refine W_local ?_; with_reducible refine W_int ?_; intro _; with_reducible refine W_lt ?_; with_reducible refine W_truthy_bool ?_)
          refine ⟨fun q => ?_, fun q => ?_⟩
          · (with_reducible refine W_consQ ?_; intro _ _ _; with_reducible refine W_assignN ?_; intro _; with_reducible refine W_callG ?_; intro _; with_reducible refine W_itemsL ?_; intro _; with_reducible refine W_items_cons ?_; intro _; with_reducible refine W_cell ?_; with_reducible refine W_itemsL ?_; intro _; with_reducible refine W_itemsL ?_; intro _; with_reducible refine W_items_nil ?_)
            refine sp_lawJoined (n := 4) (by assumption) (by omega) hI1 fun R' ws' H2 hI2 => ?_
            (with_reducible refine W_nil ?_; with_reducible refine W_nil ?_)
            exact ⟨by k_extra "lk", by k_extra "lk", by k_extra "lk", by k_extra "lk", R', ws', H2, hI2, rfl⟩
          · (with_reducible refine W_consQ ?_; intro _ _ _; with_reducible refine W_assignN ?_; intro _; with_reducible refine W_IfExp ?_; intro _; with_reducible refine W_isTrue_Compare ?_; intro _; with_reducible refine W_local ?_; with_reducible refine W_int ?_; intro _; with_reducible refine W_lt ?_; with_reducible refine W_truthy_bool ?_)
            refine ⟨fun q => ?_, fun q => ?_⟩
            · (with_reducible refine W_callG ?_; intro _; with_reducible refine W_itemsL ?_; intro _; with_reducible refine W_items_cons ?_; intro _; with_reducible refine W_cell ?_; with_reducible refine W_itemsL ?_; intro _; with_reducible refine W_itemsL ?_; intro _; with_reducible refine W_items_nil ?_)
              refine sp_lawElement (n := 4) (by assumption) rfl rfl (by omega) hI1 fun R' ws' H2 hI2 => ?_
              (with_reducible refine W_nil ?_; with_reducible refine W_nil ?_)
              exact ⟨by k_extra "lk", by k_extra "lk", by k_extra "lk", by k_extra "lk", R', ws', H2, hI2, rfl⟩
            · (with_reducible refine W_callG ?_; intro _; with_reducible refine W_itemsL ?_; intro _; with_reducible refine W_items_cons ?_; intro _; with_reducible refine W_cell ?_; with_reducible refine W_itemsL ?_; intro _; with_reducible refine W_itemsL ?_; intro _; with_reducible refine W_items_nil ?_)
              refine sp_lawCopied (n := 4) (by assumption) (by omega) hI1 fun R' ws' H2 hI2 => ?_
              (with_reducible refine W_nil ?_; with_reducible refine W_nil ?_)
              exact ⟨by k_extra "lk", by k_extra "lk", by k_extra "lk", by k_extra "lk", R', ws', H2, hI2, rfl⟩
      · rintro m1 H2 ⟨f0, f1, f2, f3, R2, ws2, H3, hI3, rfl⟩
        (with_reducible refine W_consQ ?_; intro _ _ _; with_reducible refine W_If ?_; intro _; with_reducible refine W_or ?_; intro _; with_reducible refine W_isTrue_not ?_; intro _; with_reducible refine W_isTrue ?_; intro _; with_reducible refine W_local ?_; with_reducible refine W_truthy_bool ?_; with_reducible refine w_condf ?_; with_reducible refine W_or ?_; intro _; with_reducible refine W_isTrue_not ?_; intro _; with_reducible refine W_isTrue ?_; intro _; with_reducible refine W_callG ?_; intro _; with_reducible refine W_items_cons ?_; intro _; with_reducible refine W_cell ?_; with_reducible refine W_itemsL ?_; intro _; with_reducible refine W_itemsL ?_; intro _; with_reducible refine W_items_nil ?_)
        refine sp_standsI (n := 8) (by assumption) (by omega) hI3 fun H4 hI4 => ?_
        (with_reducible refine W_truthy_bool ?_; with_reducible refine w_condf ?_; with_reducible refine W_or_nil ?_; with_reducible refine w_condf ?_; with_reducible refine W_nil ?_; with_reducible refine W_nil ?_)
        subst hG'
        exact ⟨[(it, ro)], H4 ++ G, Le_mid', hro ▸ rfl, trivial, f1, f2, f3, R2, ws2, H4, hG ▸ hI4.off (hro ▸ rngIt_nt) (hro ▸ rngIt_nc), hG ▸ rfl⟩
    · rintro m' H' - ⟨e1, e2, e3, R, ws, H0, ⟨o, ps, ep, tp, te, A, B, F, rfl, I⟩, rfl⟩
      clear hI0 hva' hp0' hva hp0 hq0 hv2 hob hpb hqb hS2 hfS2 hS1 hfS1 hr1 hr2
      rw [LL_app]
      obtain ⟨ps1, rfl⟩ := I.tp.tab
      obtain ⟨ps2, rfl⟩ := I.te.tab
      refine W.le (H' := [(src, o), (408, tabObj #[])] ++ ((pl, lstOf ps ep) :: (377, tabObj ps1) :: (394, tabObj ps2) :: (A ++ (B ++ (F ++ [(L0 + 1, oC'), (413, tabObj (#[] ++ #[rawInt 308, rawInt 30, .ref c'] ++ #[rawInt 313, rawInt 42, .ref c2]))]))))) (by k_extra "le") ?_
      (with_reducible refine W_consQ ?_; intro _ _ _; with_reducible refine W_Return ?_; with_reducible refine W_callG ?_; intro _; with_reducible refine W_itemsL ?_; intro _; with_reducible refine W_items_nil ?_)
      refine sp_lawMapRight (n := 4) (by assumption) Pk.head I.s fun H' psm h408 hsub => ?_
      exact ⟨rfl, ⟨_, hsub _ (.tail _ (.head _))⟩, ⟨_, hsub _ (.tail _ (.tail _ (.head _)))⟩, ⟨psm, h408⟩, ⟨_, hsub _ (by k_extra "mm")⟩⟩
end Mine
theorem PySem.Challenge.cw_on0025_01_holds : PySem.Challenge.rw_on0025_01.Holds := by
  exact Mine.fin
