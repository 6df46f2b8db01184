import PyProof.Rows.All
import Wide.All
import OpenK.AllK
import Wide.FinOn
import PySem.Challenge.RW_sa0211_01
set_option Elab.async false
set_option maxRecDepth 100000
set_option maxHeartbeats 8000000
set_option linter.all false
namespace Mine
section
open PySem PySem.W PyProof.Rows
theorem said1 : noRoadLSs { strict := !(importedModules PySem.Challenge.rw_sa0211_01.row.prog.main.body).all cThrough.contains, foot := none, bare := (["vars", "dir", "locals"] : List Str).filter (readsOut PySem.Challenge.rw_sa0211_01.row.prog PySem.Challenge.rw_sa0211_01.row.prog.main.body) } PySem.Challenge.rw_sa0211_01.row.prog.main.body = true := by kernel_rfl
theorem said2 : (namesMeet PySem.Challenge.rw_sa0211_01.row.prog PySem.Challenge.rw_sa0211_01.row.prog.main.body fun _ n => attrL n) = true := by kernel_rfl
theorem said3 : looksOpen PySem.Challenge.rw_sa0211_01.row.prog = true := by
  unfold looksOpen
  rw [said1, said2]
  kernel_rfl
theorem said0 : PySem.Challenge.rw_sa0211_01.wellSaid = true := by
  unfold OpenLaw.wellSaid OpenRow.wellSaid OpenRow.partSaid
  rw [said3]
  kernel_rfl
theorem lead {p r : Prop} {α : Type 1} (_ : α) (_ : r) (h : p) : p := h
local macro_rules | `(tactic| o_law) => `(tactic| refine holds_law said0 fun said => ?_)
local macro_rules | `(tactic| o_head $H) => `(tactic| refine lead (r := PySem.Challenge.rw_sa0211_01.row.toRowW.promised) $H ?hw ?hc)
open_top hd for PySem.Challenge.rw_sa0211_01
noncomputable section
/-- the text less the four rows that bind `__name__` -/
noncomputable def view : Program := PySem.W.view PySem.Challenge.pw_sa0211_01 [1, 2, 3, 5, 6, 7, 8, 9, 11, 12, 13, 14, 15, 16, 17, 18, 19, 20, 21, 22, 23, 24, 25, 26, 27, 28, 29, 30, 31, 32, 33, 34, 35, 36, 37, 38, 39, 40, 41, 42, 43, 44, 45, 46, 47, 48, 49, 51, 52, 53, 54, 55, 56, 57, 58, 59, 60]
noncomputable abbrev lv : List (Str × WData) := [(Str.ofString "MOST_UNIT", WData.int 1000000000000000000), (Str.ofString "MOST_LENGTH", WData.int 100000)]
noncomputable abbrev loose : List Str := [Str.ofString "MOST_UNIT", Str.ofString "MOST_LENGTH"]
noncomputable abbrev xt (s : Shared) : Bool := xlAt view lv s && recOk PySem.Challenge.rw_sa0211_01.row.records s
noncomputable abbrev hk : Hook := kHook Mine.hd.heap_1 [2, 3, 15, 22, 24, 25, 27, 28, 29, 30, 31, 32, 35, 42, 44, 45, 47, 48, 49, 50, 51, 54, 61, 63, 64, 66, 67, 68, 69, 70, 73, 75, 76, 78, 79, 80, 81, 82, 83, 91, 93, 94, 96, 97, 98, 99, 100, 101, 102, 112, 114, 115, 117, 118, 119, 120, 121, 122, 123, 133, 135, 136, 138, 139, 140, 141, 142, 143, 144, 147, 149, 150, 152, 153, 154, 156, 157, 159, 160, 161, 163, 164, 166, 167, 168, 170, 171, 173, 174, 175, 177, 178, 180, 181, 182, 184, 185, 187, 188, 189, 191, 192, 194, 195, 196, 198, 199, 201, 202, 203, 205, 206, 208, 209, 210, 212, 213, 215, 216, 217, 219, 220, 222, 223, 224, 226, 227, 229, 230, 231, 233, 234, 236, 237, 238, 240, 241, 243, 244, 245, 247, 248, 250, 251, 252, 254, 255, 257, 258, 259, 261, 262, 264, 265, 266, 268, 269, 271, 272, 273, 275, 276, 278, 279, 280, 282, 283, 285, 286, 287, 288, 290, 291, 293, 294, 295, 298, 299, 300, 302, 303, 305, 306, 307, 310, 311, 312, 315, 316, 317, 319, 320, 322, 323, 324, 327, 328, 329, 332, 333, 334, 336, 337, 339, 340] (fun _ => by kernel_rfl)
theorem left_boot {p q : Program} {loose : List Str} {Xt : Shared → Bool} {α : Type} {Yf : Shared → α} {Ya : World → α} {N : Nat}
    (ob : ∀ w : World, (fencedOpening treeTable p w N).map (fun s => (s.heap, s.gens, s.drawn, s.toks)) = some (boot_heap w.params, Array.mk [], boot_drawn, boot_toks))
    (h : ∀ (w : World) (os : OsState), (topFrom treeTable p w N ⟨boot_heap w.params, Array.mk [], boot_drawn, boot_toks, os⟩).map (fun s => (openSeen q loose (importedModules p.main.body) Xt true s, Yf s)) = some (openGood q loose, Ya w)) :
    LeftO p q loose Xt Yf Ya N := fun w => by
  obtain ⟨s, hs, hv⟩ := Option.map_eq_some_iff.mp (ob w)
  obtain ⟨hp, gn, dr, tk, os⟩ := s
  simp only [Prod.mk.injEq] at hv
  obtain ⟨rfl, rfl, rfl, rfl⟩ := hv
  unfold openEnds
  rw [hs]
  exact h w os
noncomputable abbrev pw : Program := PySem.Challenge.rw_sa0211_01.row.prog
theorem open_names : opening pw = plainProg pw.main.scope.names := by kernel_rfl
theorem open_fence (s : Shared) : fenceModules? pw s = some s := by kernel_rfl

noncomputable def topRunT (tb : String → Option Builtin) (p : Program) (w : World) (n₀ : Nat) (ann : Option Value) : Nat → SharedT → Thread → Option SharedT
  | 0, _, _ => none
  | n + 1, s, t => match through t with
    | true => some s
    | false => match stepOk n₀ ann t with
      | false => none
      | true => match stepT (denote tb) p w s t with
        | some (s', t') => topRunT tb p w n₀ ann n s' t'
        | none => none
theorem topRun_of {tb : String → Option Builtin} {p : Program} {w : World} {n₀ : Nat} {ann : Option Value} : ∀ {n : Nat} {s s' : SharedT} {t : Thread}, topRunT tb p w n₀ ann n s t = some s' → topRun tb p w n₀ ann n s.abs t = some s'.abs
  | 0, _, _, _, h => by cases h
  | n + 1, s, s', t, h => by
    unfold topRunT at h
    unfold topRun
    cases he : through t with
    | true => rw [he] at h; cases h; rfl
    | false =>
      rw [he] at h
      cases hk : stepOk n₀ ann t with
      | false => rw [hk] at h; cases h
      | true =>
        rw [hk] at h
        cases hs : stepT (denote tb) p w s t with
        | none => rw [hs] at h; cases h
        | some r => obtain ⟨s₂, t₂⟩ := r; rw [hs] at h; rw [stepT_spec hs]; exact topRun_of h
noncomputable def bootT (P : Params) : BT := (.node (boot_o_0 P) (.node (boot_o_1 P) (.node (boot_o_3 P) (.node (boot_o_7 P) .nil .nil) .nil) (.node (boot_o_5 P) (.node (boot_o_9 P) .nil .nil) .nil)) (.node (boot_o_2 P) (.node (boot_o_4 P) (.node (boot_o_8 P) .nil .nil) .nil) (.node (boot_o_6 P) (.node (boot_o_10 P) .nil .nil) .nil)))
theorem boot_tree (P : Params) : absHeap (bootT P) 11 {} = boot_heap P := by kernel_rfl
theorem boot_looks (P : Params) : ((boot_heap P).isNs mainGlobals && (Array.mk [] : Array GenState).size == 0, (boot_heap P).objs.size, (boot_heap P).nsMap mainGlobals "__annotations__") = (true, 11, some (.ref 6)) := by kernel_rfl
noncomputable def codeOf (n q : Str) (a : Arguments) (b : List Stmt) (sc : Scope) : Obj := { cls := .none, data := .func { name := n, qualname := q, params := a, body := .stmts b, scope := sc, globals := 0, closure := [], defaults := .none, kwdefaults := .none } }
noncomputable def codes (q : Str → Str) (l : List Stmt) : List Obj := l.filterMap fun st => match st with
  | .FunctionDef n a b _ _ _ sc _ _ _ => some (codeOf n (q n) a b sc)
  | _ => none
noncomputable def kept (P : Params) : List (Addr × Obj) := [(0, boot_o_0 P), (1, boot_o_1 P), (4, boot_o_4 P), (5, boot_o_5 P), (6, boot_o_6 P), (7, boot_o_7 P), (8, boot_o_8 P), (9, boot_o_9 P), (10, boot_o_10 P)] ++ List.zip [26, 46, 65, 95, 116, 137] (pw.main.body.flatMap fun st => match st with
  | .ClassDef n _ _ b _ _ _ _ _ _ _ => codes (fun m => ⟨n.cps ++ #[46] ++ m.cps⟩) b
  | _ => []) ++ List.zip [77, 151, 158, 165, 172, 179, 186, 193, 200, 207, 214, 221, 228, 235, 242, 249, 256, 263, 270, 277, 284, 292, 297, 304, 309, 314, 321, 326, 331, 338] (codes id pw.main.body) ++ [23, 43, 62, 74, 92, 113, 134, 148, 155, 162, 169, 176, 183, 190, 197, 204, 211, 218, 225, 232, 239, 246, 253, 260, 267, 274, 281, 289, 296, 301, 308, 313, 318, 325, 330, 335].map (fun a => (a, ({ cls := .none, data := .fields #[] } : Obj))) ++ Mine.hd.heap_1 P
noncomputable def goT (tb : String → Option Builtin) (p : Program) (w : World) (n₀ : Nat) (ann : Option Value) : Nat → SharedT → Thread → Option (SharedT × Thread)
  | 0, s, t => some (s, t)
  | n + 1, s, t => match through t with
    | true => none
    | false => match stepOk n₀ ann t with
      | false => none
      | true => match stepT (denote tb) p w s t with
        | some (s', t') => goT tb p w n₀ ann n s' t'
        | none => none
theorem goT_run {tb : String → Option Builtin} {p : Program} {w : World} {n₀ : Nat} {ann : Option Value} {N : Nat} {r : SharedT} {s' : SharedT} {t' : Thread} : ∀ {n : Nat} {s : SharedT} {t : Thread}, goT tb p w n₀ ann n s t = some (s', t') → topRunT tb p w n₀ ann N s' t' = some r → topRunT tb p w n₀ ann (N + n) s t = some r
  | 0, s, t, h, k => by cases h; exact k
  | n + 1, s, t, h, k => by
    unfold goT at h
    show topRunT tb p w n₀ ann (N + n + 1) s t = some r
    unfold topRunT
    cases he : through t with
    | true => rw [he] at h; cases h
    | false =>
      rw [he] at h
      cases hk : stepOk n₀ ann t with
      | false => rw [hk] at h; cases h
      | true =>
        rw [hk] at h
        cases hs : stepT (denote tb) p w s t with
        | none => rw [hs] at h; cases h
        | some q => obtain ⟨s₂, t₂⟩ := q; rw [hs] at h; exact goT_run h k
noncomputable def fillT (f : Nat → Obj) (n : Nat) : Nat → Nat → Nat → BT
  | 0, _, _ => .nil
  | k + 1, a, b => match Nat.blt b n with
    | true => .node (f b) (fillT f n k (2 * a) (a + b)) (fillT f n k (2 * a) (2 * a + b))
    | false => .nil
noncomputable def shapeT (n : Nat) : Nat → Nat → Nat → BT → Bool
  | _, _, b, .nil => !Nat.blt b n
  | 0, _, _, .node .. => false
  | k + 1, a, b, .node _ l r => Nat.blt b n && shapeT n k (2 * a) (a + b) l && shapeT n k (2 * a) (2 * a + b) r
theorem fill_eq {g : Nat → Obj} {n : Nat} : ∀ {t : BT} {k a b : Nat}, shapeT n k a b t = true → (∀ i o, t.get i = some o → o = g (a * i + b)) → t = fillT g n k a b
  | .nil, k, a, b, h, _ => by
    cases k with
    | zero => rfl
    | succ k =>
      unfold fillT
      cases e : Nat.blt b n with
      | true => simp [shapeT, e] at h
      | false => rfl
  | .node v l r, 0, a, b, h, _ => by simp [shapeT] at h
  | .node v l r, k + 1, a, b, h, m => by
    simp only [shapeT, Bool.and_eq_true] at h
    obtain ⟨⟨h1, h2⟩, h3⟩ := h
    unfold fillT
    rw [h1]
    show _ = BT.node (g b) (fillT g n k (2 * a) (a + b)) (fillT g n k (2 * a) (2 * a + b))
    have e0 : v = g b := by
      have := m 0 v (by rw [BT.get_node, if_pos rfl])
      rw [this]; congr 1; omega
    have el : l = fillT g n k (2 * a) (a + b) := fill_eq h2 fun i o q => by
      have := m (2 * i + 1) o (by rw [BT.get_node, if_neg (by omega), if_pos (by omega), show (2 * i + 1) / 2 = i by omega]; exact q)
      rw [this]; congr 1; rw [Nat.mul_add, ← Nat.mul_assoc, Nat.mul_comm a 2]; omega
    have er : r = fillT g n k (2 * a) (2 * a + b) := fill_eq h3 fun i o q => by
      have := m (2 * i + 2) o (by rw [BT.get_node, if_neg (by omega), if_neg (by omega), show (2 * i + 2) / 2 - 1 = i by omega]; exact q)
      rw [this]; congr 1; rw [Nat.mul_add, ← Nat.mul_assoc, Nat.mul_comm a 2]; omega
    rw [← e0, ← el, ← er]
noncomputable def midO (P : Params) : List (Addr × Obj) := [(3, match List.lookup 3 (Mine.hd.heap_1 P) with
    | some ⟨c, d, .dict es _, sl⟩ => ⟨c, d, .dict (match es.toList with
      | q :: qs => { q with val := .str (Str.ofString "f77.files") 285 } :: qs.take 34
      | [] => []).toArray 35, sl⟩
    | _ => default),
  (12, { cls := .none, data := .fields #[.int 2 0, .int 0 0, .ref 20, .int 7 0, .int 0 0, .ref 40, .int 12 0, .int 0 0, .ref 59, .int 21 0, .int 0 0, .ref 78, .int 44 0, .int 0 0, .ref 89, .int 53 0, .int 0 0, .ref 110] }),
  (13, { cls := .type "code", data := .fields #[.str (Str.ofString "<module>") 182, .str (Str.ofString "<module>") 183, .str (Str.ofString "/claim/cut.py") 184, .int 1 0, .int 0 0, .int 0 0, .int 0 0, .int 0 0, .ref 11, .bool false, .int 181 0, .ref 12, .none, .none, .none, .none, .int 185 0, .int 1 0, .str (Str.ofString "/claim/cut.py") 186] })]
  ++ (kept P).filter fun q => Nat.blt q.1 126 && !Nat.beq q.1 3
noncomputable def midThread : Thread :=
  have e : Env := { scope := pw.main.scope, locals := 3, globals := 3, cells := [], code := .ref 13, frame := some 14 }
  ⟨((execs (pw.main.body.drop 29) e).onRaise (leaving e)).bind fun f => (Sem.pure (Fin.done f) : Sem Fin), .body pw.main.body e, ⟨53, 0, 56, 23⟩, [topFrame ⟨0, 0, 0, 0⟩]⟩
noncomputable def atK (K : List (Addr × Obj)) (x : Nat → Obj) (a : Nat) : Obj := match K with
  | [] => x a
  | q :: K => match Nat.beq q.1 a with
    | true => q.2
    | false => atK K x a
theorem atK_eq {x : Nat → Obj} {a : Nat} : ∀ {K : List (Addr × Obj)}, (∀ q ∈ K, x q.1 = q.2) → atK K x a = x a
  | [], _ => rfl
  | q :: K, h => by
    unfold atK
    cases e : Nat.beq q.1 a with
    | true => rw [← Nat.eq_of_beq_eq_true e]; exact (h q (.head _)).symm
    | false => exact atK_eq fun q' m => h q' (.tail _ m)
theorem mid_run (w : World) (os : OsState) : (goT treeTable pw w 11 (some (.ref 6)) 1457 ⟨bootT w.params, 11, {}, Array.mk [], boot_drawn, boot_toks, os⟩ (topStub pw)).map (fun q => (shapeT 126 7 1 0 q.1.tree, q.1.n, q.1.life, q.1.gens, q.1.drawn, q.1.toks, q.1.os, q.2, (midO w.params).map fun z => q.1.tree.get z.1)) = some (true, 126, {}, Array.mk [], boot_drawn, 394, os, midThread, (midO w.params).map fun z => some z.2) := by kernel_rfl
theorem mid_end (x : Nat → Obj) (w : World) (os : OsState) : (topRunT treeTable pw w 11 (some (.ref 6)) 3877 ⟨fillT (atK (midO w.params) x) 126 7 1 0, 126, {}, Array.mk [], boot_drawn, 394, os⟩ midThread).map (fun s => (s.n, s.life, s.gens, s.drawn, s.toks, s.os, (kept w.params).map fun q => s.tree.get q.1)) = some (341, {}, Array.mk [], boot_drawn, 716, os, (kept w.params).map fun q => some q.2) := by kernel_rfl
theorem top_run (w : World) (os : OsState) : (topRunT treeTable pw w 11 (some (.ref 6)) 5334 ⟨bootT w.params, 11, {}, Array.mk [], boot_drawn, boot_toks, os⟩ (topStub pw)).map (fun s => (s.n, s.life, s.gens, s.drawn, s.toks, s.os, (kept w.params).map fun q => s.tree.get q.1)) = some (341, {}, Array.mk [], boot_drawn, 716, os, (kept w.params).map fun q => some q.2) := by
  obtain ⟨⟨s, t⟩, hs, hv⟩ := Option.map_eq_some_iff.mp (mid_run w os)
  obtain ⟨T, n, life, gens, drawn, toks, os'⟩ := s
  simp only [Prod.mk.injEq] at hv
  obtain ⟨h0, rfl, rfl, rfl, rfl, rfl, rfl, rfl, hl⟩ := hv
  have k : atK (midO w.params) (fun i => (T.get i).getD default) = fun i => (T.get i).getD default := funext fun a => atK_eq fun q hq => by
    show (T.get q.1).getD default = q.2
    rw [List.map_inj_left.mp hl q hq]
    rfl
  have hT : T = fillT (atK (midO w.params) (fun i => (T.get i).getD default)) 126 7 1 0 := by
    rw [k]
    exact fill_eq h0 fun i o q => by
      show o = (T.get (1 * i + 0)).getD default
      rw [Nat.one_mul, Nat.add_zero, q]
      rfl
  have e := mid_end (fun i => (T.get i).getD default) w os'
  rw [← hT] at e
  obtain ⟨r, hr, hv⟩ := Option.map_eq_some_iff.mp e
  rw [show 5334 = 3877 + 1457 from rfl, goT_run hs hr]
  exact congrArg some hv
noncomputable def endS (x : Nat → Obj) (w : World) (os : OsState) : Shared := ⟨⟨((List.range 341).map (atK (kept w.params) x)).toArray, {}⟩, Array.mk [], boot_drawn, 716, os⟩
theorem end_kept (x : Nat → Obj) (w : World) (os : OsState) : (staticsOk (importedModules pw.main.body) (boot_heap w.params) (endS x w os).heap && namesBound pw (endS x w os).heap && gensDone (endS x w os) && laidKept (boot_heap w.params) (endS x w os).heap) = true := by kernel_rfl
theorem end_seen (x : Nat → Obj) (w : World) (os : OsState) : openSeen view loose (importedModules pw.main.body) xt true (endS x w os) = openGood view loose := by kernel_rfl
theorem end_obs (x : Nat → Obj) (w : World) (os : OsState) : hk.obs (endS x w os) = hk.val w := by kernel_rfl
theorem top_ok (w : World) (os : OsState) : (topFrom treeTable pw w 5334 ⟨boot_heap w.params, Array.mk [], boot_drawn, boot_toks, os⟩).map (fun s => (openSeen view loose (importedModules pw.main.body) xt true s, hk.obs s)) = some (openGood view loose, hk.val w) := by
  obtain ⟨s, hs, hv⟩ := Option.map_eq_some_iff.mp (top_run w os)
  obtain ⟨T, n, life, gens, drawn, toks, os'⟩ := s
  simp only [Prod.mk.injEq] at hv
  obtain ⟨rfl, rfl, rfl, rfl, rfl, rfl, hl⟩ := hv
  have z := boot_looks w.params
  obtain ⟨z1, z2⟩ := Prod.mk.inj z
  obtain ⟨z2, z3⟩ := Prod.mk.inj z2
  have r := topRun_of hs
  have e : (SharedT.mk T 341 {} (Array.mk []) boot_drawn 716 os').abs = endS (fun i => (T.get i).getD default) w os' := by
    have k : atK (kept w.params) (fun i => (T.get i).getD default) = fun i => (T.get i).getD default := funext fun a => atK_eq fun q hq => by
      show (T.get q.1).getD default = q.2
      rw [List.map_inj_left.mp hl q hq]
      rfl
    unfold endS
    rw [k]
    rfl
  rw [e] at r
  unfold SharedT.abs at r
  dsimp only at r
  rw [boot_tree] at r
  unfold topFrom
  dsimp only
  rw [z1, z2, z3, r]
  show Option.map _ (match staticsOk (importedModules pw.main.body) (boot_heap w.params) (endS (fun i => (T.get i).getD default) w os').heap && namesBound pw (endS (fun i => (T.get i).getD default) w os').heap && gensDone (endS (fun i => (T.get i).getD default) w os') && laidKept (boot_heap w.params) (endS (fun i => (T.get i).getD default) w os').heap with | true => some (endS (fun i => (T.get i).getD default) w os') | false => none) = _
  rw [end_kept]
  show some (openSeen view loose (importedModules pw.main.body) xt true (endS (fun i => (T.get i).getD default) w os'), hk.obs (endS (fun i => (T.get i).getD default) w os')) = _
  rw [end_seen, end_obs]
theorem left_top : LeftO pw view loose xt hk.obs hk.val 5334 := left_boot (boot_open open_names (by kernel_rfl) open_fence) top_ok
end
theorem top_off : True := by
  w_top off
  trivial
end
section
open PySem PySem.W PyProof.Rows PySem.Spec PySem.Calls
local macro_rules | `(tactic| walk_at $s:str) => `(tactic| k_extra $s)
theorem hk_ax {α : Type} {P : α → Prop} (x : Nonempty α) (h : P (@Classical.epsilon α x fun a => ¬ P a)) : ∀ a, P a := fun a => Classical.byContradiction fun n => (@Classical.epsilon_spec _ (fun a => ¬ P a) ⟨a, n⟩) h
section
variable {x a b c d e f g h : Addr × Obj} {l : List (Addr × Obj)}
theorem m0_ : x ∈ x :: l := .head _
theorem m1_ : x ∈ a :: x :: l := .tail _ (.head _)
theorem m2_ : x ∈ a :: b :: x :: l := .tail _ (.tail _ (.head _))
theorem m3_ : x ∈ a :: b :: c :: x :: l := .tail _ (.tail _ (.tail _ (.head _)))
theorem m4_ : x ∈ a :: b :: c :: d :: x :: l := .tail _ (.tail _ (.tail _ (.tail _ (.head _))))
theorem m5_ : x ∈ a :: b :: c :: d :: e :: x :: l := .tail _ (.tail _ (.tail _ (.tail _ (.tail _ (.head _)))))
theorem m6_ : x ∈ a :: b :: c :: d :: e :: f :: x :: l := .tail _ (.tail _ (.tail _ (.tail _ (.tail _ (.tail _ (.head _))))))
theorem m7_ : x ∈ a :: b :: c :: d :: e :: f :: g :: x :: l := .tail _ (.tail _ (.tail _ (.tail _ (.tail _ (.tail _ (.tail _ (.head _)))))))
theorem m8s_ (q : x ∈ l) : x ∈ a :: b :: c :: d :: e :: f :: g :: h :: l := .tail _ (.tail _ (.tail _ (.tail _ (.tail _ (.tail _ (.tail _ (.tail _ (q))))))))
end
theorem lt_at {d b : Addr} {o : Obj} : ∀ {l : List (Addr × Obj)}, AllLt d l → (b, o) ∈ l → @LT.lt Nat _ b d
  | _ :: _, h, .head _ => h.1
  | _ :: _, h, .tail _ m => lt_at h.2 m
local macro_rules | `(tactic| k_ne) => `(tactic| k_extra "my:k_ne")
local macro_rules | `(tactic| k_all) => `(tactic| k_extra "my:k_all")
local macro_rules | `(tactic| k_room) => `(tactic| k_extra "my:k_room")
local macro_rules | `(tactic| k_qdec) => `(tactic| decide +kernel)
section
local macro_rules | `(tactic| k_mem) => `(tactic| k_extra "my:k_mem")
local macro_rules | `(tactic| k_lt $h:ident) => `(tactic| replace $h := allLt_of $h)
section
open PySem PySem.W PyProof.Rows PySem.Spec PySem.Calls
noncomputable section
structure St (w : World) (mean : ExcName → Option Value) (mg mb : Str → Option Value) (base : Heap) : Prop where
  X : (Mine.hd.heap_1 w.params).In base
  T : Top Mine.view (looseW Mine.view [Str.ofString "MOST_UNIT", Str.ofString "MOST_LENGTH"]) mean mg mb base
noncomputable abbrev fs (outer : List Env) : List Addr := outer.filterMap (·.frame)
noncomputable def Step (fl bs : List Addr) (h h' : Heap) : Prop :=
  ∀ a o, h.get? a = some o → a ∉ bs → (a ∉ fl → h'.get? a = some o) ∧ ∃ sl, h'.get? a = some { o with slots := sl }
structure Room (A : Around) (n : Nat) : Prop where
  han : A.handled = none
  dep : A.depth + n < recursionLimit
  uni : A.units + 40 * n < cLine
noncomputable def Old (h g : Heap) (bs : List Addr) : Prop := ∀ a o, h.get? a = some o → a ∉ bs → g.get? a = some o
noncomputable def Has (base : Heap) (outer : List Env) (h : Heap) (bs : List (Addr × Obj)) : Prop :=
  ∀ p ∈ bs, h.get? p.1 = some p.2 ∧ base.get? p.1 = none ∧ p.1 ∉ fs outer
section
variable {fl bs : List Addr} {h h' h'' : Heap}
theorem Step.refl : Step fl bs h h := fun _ o e _ => ⟨fun _ => e, o.slots, e⟩
theorem Step.trans (x : Step fl bs h h') (y : Step fl bs h' h'') : Step fl bs h h'' := fun a o e hb => by
  obtain ⟨x1, sl, x2⟩ := x a o e hb
  refine ⟨fun hf => (y a o (x1 hf) hb).1 hf, ?_⟩
  obtain ⟨_, sl', y2⟩ := y a _ x2 hb
  exact ⟨sl', y2⟩
theorem Step.mono {fl' bs' : List Addr} (x : Step fl bs h h') (hf : ∀ a ∈ fl, a ∈ fl') (hb : ∀ a ∈ bs, a ∈ bs') : Step fl' bs' h h' := fun a o e hn =>
  ⟨fun hf' => (x a o e fun q => hn (hb a q)).1 fun q => hf' (hf a q), (x a o e fun q => hn (hb a q)).2⟩
theorem Step.at {a : Addr} {o : Obj} (x : Step fl bs h h') (e : h.get? a = some o) (hb : a ∉ bs) (hf : a ∉ fl) : h'.get? a = some o := (x a o e hb).1 hf
end
theorem frames_step {base h h' : Heap} {fl bs : List Addr} (x : Step fl bs h h') : ∀ {l : List Env}, h.FunFrames base l → (∀ f ∈ fs l, f ∉ bs) → h'.FunFrames base l
  | [], _, _ => trivial
  | env :: r, ⟨hk, ⟨L, o, hf, hn, ho, hd⟩, hr⟩, hb => by
    have e : fs (env :: r) = L :: fs r := by simp only [fs, List.filterMap_cons, hf]
    rw [e] at hb
    obtain ⟨_, sl, hs⟩ := x L o ho (hb L (.head _))
    exact ⟨hk, ⟨L, _, hf, hn, hs, hd⟩, frames_step x hr fun f hm => hb f (.tail _ hm)⟩
section
variable {A A₀ : Around} {base g g₀ g' h h' : Heap} {outer : List Env} {L : Addr} {m : Str → Option Value} {news : List (Addr × Obj)} {fl bs : List Addr}
theorem frame_none (F : Fr g L h m) : g.get? L = none := kts_self F
theorem Step.below (x : Step (fs outer) bs h h') (B : Below A base outer h) (hb : ∀ b ∈ bs, base.get? b = none ∧ b ∉ fs outer) : Below A base outer h' :=
  ⟨B.stack, fun b o e => x.at (B.stays b o e) (fun q => by rw [(hb b q).1] at e; cases e) (fun q => by rw [(B.frames.mem q).1] at e; cases e), frames_step x B.frames fun f hf hm => (hb f hm).2 hf⟩
theorem back0 (x : Step [] bs h h') (F : Fr g L h m) (hb : ∀ b ∈ bs, g.get? b = none ∧ b ≠ L) : Fr g L h' m := by
  obtain ⟨oL, es, ep, hL, r⟩ := F.ns
  exact ⟨⟨oL, es, ep, x.at hL (fun q => (hb L q).2 rfl) (List.not_mem_nil), r⟩, fun b o e => x.at (F.keep b o e) (fun q => by rw [(hb b q).1] at e; cases e) List.not_mem_nil, F.above⟩
theorem back0N (x : Step [] bs h h') (N : News g L h news) (hd : ∀ p ∈ news, p.1 ∉ bs) : News g L h' news := fun p hp =>
  ⟨x.at (N p hp).1 (hd p hp) List.not_mem_nil, (N p hp).2⟩
theorem back (x : Step (L :: fs outer) bs h h') (B : Below A₀ base outer g) (F : Fr g L h m) (hb : ∀ b ∈ bs, g.get? b = none ∧ b ≠ L) :
    ∃ g', KtsTurn (fs outer) g g' ∧ Fr g' L h' m ∧ Below A₀ base outer g' ∧ base.StaysIn g' := by
  have nL : L ∉ fs outer := fun q => by
    obtain ⟨_, o, ho, _⟩ := B.frames.mem q
    rw [frame_none F] at ho; cases ho
  have nb : ∀ b o, g.get? b = some o → b ∉ bs := fun b o e q => by rw [(hb b q).1] at e; cases e
  have nl : ∀ b o, g.get? b = some o → b ≠ L := fun b o e q => by rw [q, frame_none F] at e; cases e
  obtain ⟨T, S⟩ := kts_turn_at (h := h') (fs := fs outer) (g := g)
    (fun b hb => by obtain ⟨_, o, ho, _⟩ := B.frames.mem hb; exact ⟨o, ho⟩)
    (fun b o e nm => x.at (F.keep b o e) (nb b o e) (fun q => by
      rcases List.mem_cons.mp q with q | q
      · exact nl b o e q
      · exact nm q))
    (fun b o e hm => (x b o (F.keep b o e) (nb b o e)).2)
  obtain ⟨oL, es, ep, hL, r⟩ := F.ns
  obtain ⟨_, sl, hs⟩ := x L oL hL fun q => (hb L q).2 rfl
  have st : base.StaysIn (ktsHeap h' (fs outer) g) := fun b o e => T.other b o (B.stays b o e) (fun hm => by
    rw [(B.frames.mem hm).1] at e
    cases e)
  refine ⟨_, T, ⟨⟨_, es, ep, hs, r⟩, S, by rw [T.size]; exact F.above⟩, ⟨B.stack, st, B.frames.of_keeps fun b o e _ => ?_⟩, st⟩
  obtain ⟨sl, hs⟩ := T.up e
  exact ⟨_, hs, rfl⟩
theorem has_of {name : Str} {scope : Scope} {a : Addr} {cd : Value} (B : Below A₀ base outer g) (N : News g L h news) (hs : ∀ p ∈ bs', p ∈ news) : Has base (envOf name scope L a cd :: outer) h bs' := fun p hp => by
  have z := N p (hs p hp)
  refine ⟨z.1, fresh_of_stays B.stays z.2.2, fun q => ?_⟩
  rcases List.mem_cons.mp q with q | q
  · exact z.2.1 q
  · obtain ⟨_, o, ho, _⟩ := B.frames.mem q
    rw [z.2.2] at ho; cases ho
end
section
variable {prog : Program} {w : World} {A : Around} {s : Shared} {base : Heap} {outer : List Env} {mean : ExcName → Option Value} {mg mb : Str → Option Value}
  {R : Result → Shared → Prop} {name qual : Str} {params : Arguments} {body : List Stmt} {scope : Scope} {dV kV doc pm cdv ct oc : Value} {an od : Option Addr} {osl : Array (Option Value)} {f : Addr} {args : Args} {binds : List (Str × Value)}
theorem enter (bs : List (Addr × Obj)) (S : St w mean mg mb base) (B : Below A base outer s.heap) (hA : A.depth < recursionLimit) (H : Has base outer s.heap bs)
    (ho : (Mine.hd.heap_1 w.params).lookup f = some ⟨oc, od, .func (fnOf name qual params body scope dV kV doc pm an cdv ct), osl⟩) (hcd : codeIn (Mine.hd.heap_1 w.params) cdv qual = true)
    (hbind : BindsTo s (fnOf name qual params body scope dV kV doc pm an cdv ct) args binds) (hloc : ∀ y ∈ binds, scope.names.lookup y.1 = some .local)
    (h : ∀ g L' h₁, Fr g L' h₁ (fun y => binds.reverse.lookup y) → News g L' h₁ bs → Below A base outer g → (Mine.hd.heap_1 w.params).In g → Top Mine.view (looseW Mine.view [Str.ofString "MOST_UNIT", Str.ofString "MOST_LENGTH"]) mean mg mb g →
      Old s.heap g (bs.map (·.1)) → g.objs.size = L' → s.heap.objs.size = L' →
      wpAny (model prog w) (A.deeper (envOf qual scope L' f cdv)) (execs body (envOf qual scope L' f cdv))
        (fun fl s' => R (.ok (.ret (match fl with | .ret v => v | _ => .none))) s')
        (fun e s' => wpAny (model prog w) (A.deeper (envOf qual scope L' f cdv)) (leaving (envOf qual scope L' f cdv) e) (fun _ s'' => R (.error e) s'') (fun e' s'' => R (.error e') s'') s')
        { s with heap := h₁, toks := s.toks + binds.length })
    (hco : scope.isCoroutine = false := by rfl) (hgen : scope.isGenerator = false := by rfl) (hk : scope.kind = .function := by rfl)
    (hcell : ∀ x ∈ scope.names, x.2 ≠ .cell := by decide) : codeAny (model prog w) A (.call (.ref f) args) R s := by
  have X := S.X.keeps B.stays
  have T := S.T.keeps B.stays
  refine codeAny_call_def (fd := fnOf name qual params body scope dV kV doc pm an cdv ct) (body := body) (binds := binds) hA (X _ _ ho) rfl T.nolimit (codeRec_of X hcd) rfl hbind hcell hloc (fun h₁ hns hk₁ => ?_) hco hgen hk
  have nb : ∀ b o, base.get? b = some o → b ∉ bs.map (·.1) := fun b o e q => by
    obtain ⟨p, hp, rfl⟩ := List.mem_map.mp q
    rw [(H p hp).2.1] at e; cases e
  have st : base.StaysIn (hideAll s.heap (bs.map (·.1))) := fun b o e => hideAll_get _ (B.stays b o e) (nb b o e)
  have nf : ∀ env ∈ outer, ∀ b ∈ bs.map (·.1), env.frame ≠ some b := fun env he b hb hf => by
    obtain ⟨p, hp, rfl⟩ := List.mem_map.mp hb
    exact (H p hp).2.2 (List.mem_filterMap.mpr ⟨env, he, hf⟩)
  exact h (hideAll s.heap (bs.map fun p => p.1)) s.heap.objs.size h₁ ⟨hns, fun b o e => hk₁ b o (of_hideAll _ e), Nat.le_of_eq (hideAll_size _ _)⟩
    (fun p hp => ⟨hk₁ _ _ (H p hp).1, Nat.ne_of_lt (Heap.lt_size (H p hp).1), hideAll_none _ (List.mem_map_of_mem hp)⟩)
    ⟨B.stack, st, funFrames_hideAll B.frames nf⟩ (S.X.keeps fun b o e => st b o e) (S.T.keeps fun b o e => st b o e) (fun a o e hn => hideAll_get _ e hn) (hideAll_size _ _) rfl
end
section
variable {base g g' h h' : Heap} {outer : List Env} {L : Addr} {m : Str → Option Value} {bs : List Addr}
theorem end0 (ho : Old h g bs) (F : Fr g L h' m) : Step [] bs h h' := fun a o e hb =>
  ⟨fun _ => F.keep a o (ho a o e hb), o.slots, F.keep a o (ho a o e hb)⟩
theorem end1 (ho : Old h g bs) (T : KtsTurn (fs outer) g g') (F : Fr g' L h' m) : Step (fs outer) bs h h' := fun a o e hb => by
  refine ⟨fun hf => F.keep a o (T.other a o (ho a o e hb) hf), ?_⟩
  obtain ⟨sl, hs⟩ := T.up (ho a o e hb)
  exact ⟨sl, F.keep a _ hs⟩
end
section
variable {A : Around} {n k : Nat} {env : Env}
theorem Room.deeper (R : Room A n) (h : k + 1 ≤ n) : Room (A.deeper env) k := by
  obtain ⟨h1, h2, h3⟩ := R
  refine ⟨h1, ?_, ?_⟩
  · show A.depth + 1 + k < recursionLimit
    omega
  · show A.units + 3 + 40 * k < cLine
    omega
theorem Room.less (R : Room A n) (h : k ≤ n) : Room A k := by
  obtain ⟨h1, h2, h3⟩ := R
  exact ⟨h1, by omega, by omega⟩
theorem Room.d (R : Room A n) : A.depth < recursionLimit := Nat.lt_of_le_of_lt (Nat.le_add_right _ _) R.dep
theorem Room.u (R : Room A n) : A.units < cLine := Nat.lt_of_le_of_lt (Nat.le_add_right _ _) R.uni
end
section
variable {base g g₀ g' h h' : Heap} {outer : List Env} {A₀ : Around} {L b d x : Addr} {o o' p p' ox : Obj} {m : Str → Option Value} {news news' : List (Addr × Obj)} {gg g1 g2 : Obj → List (Addr × Obj)} {bs : List Addr}
theorem upd_mem (U : UpdF b o news gg) : ∀ q ∈ gg o', q = (b, o') ∨ (q ∈ news ∧ q.1 ≠ b) := by
  obtain ⟨pre, post, rfl, hg, h1, h2⟩ := U.split
  intro q hq
  rw [hg] at hq
  rcases List.mem_append.mp hq with hq | hq
  · exact .inr ⟨List.mem_append_left _ hq, h1 q hq⟩
  · rcases List.mem_cons.mp hq with rfl | hq
    · exact .inl rfl
    · exact .inr ⟨List.mem_append_right _ (.tail _ hq), h2 q hq⟩
theorem upd_in (U : UpdF b o news gg) : (b, o) ∈ news := by
  obtain ⟨pre, post, rfl, hg, h1, h2⟩ := U.split
  simp
theorem fresh_in {bs : List (Addr × Obj)} (ho : Old h g (bs.map (·.1))) (N : News g L h' news) (hm : (x, ox) ∈ news) (hn : ∀ q ∈ bs, q.1 ≠ x) : h.get? x = none := by
  cases e : h.get? x with
  | none => rfl
  | some o =>
    have := ho x o e (fun q => by
      obtain ⟨y, hy, hy'⟩ := List.mem_map.mp q
      exact hn y hy hy')
    rw [(N _ hm).2.2] at this
    cases this
theorem turn_none {fl : List Addr} (T : KtsTurn fl g g') (e : g'.get? x = none) : g.get? x = none := by
  cases q : g.get? x with
  | none => rfl
  | some o =>
    obtain ⟨sl, hs⟩ := T.up q
    rw [e] at hs; cases hs
theorem fresh_in1 {fl : List Addr} {bs : List (Addr × Obj)} (ho : Old h g (bs.map (·.1))) (T : KtsTurn fl g g') (N : News g' L h' news) (hm : (x, ox) ∈ news) (hn : ∀ q ∈ bs, q.1 ≠ x) : h.get? x = none := by
  cases e : h.get? x with
  | none => rfl
  | some o =>
    have := ho x o e (fun q => by
      obtain ⟨y, hy, hy'⟩ := List.mem_map.mp q
      exact hn y hy hy')
    rw [turn_none T (N _ hm).2.2] at this
    cases this
theorem use0 (F : Fr g L h m) (N : News g L h news) (U : UpdF b o news gg) (x : Step [] [b] h h') (hb : h'.get? b = some o') : Fr g L h' m ∧ News g L h' (gg o') := by
  have nb := (N _ (upd_in U)).2
  refine ⟨back0 x F fun c hc => ?_, fun q hq => ?_⟩
  · rw [List.mem_singleton.mp hc]; exact ⟨nb.2, nb.1⟩
  · rcases upd_mem U q hq with rfl | ⟨hq, hne⟩
    · exact ⟨hb, nb⟩
    · exact ⟨x.at (N q hq).1 (fun z => hne (List.mem_singleton.mp z)) List.not_mem_nil, (N q hq).2⟩
theorem use00 (F : Fr g L h m) (N : News g L h news) (x : Step [] [] h h') : Fr g L h' m ∧ News g L h' news :=
  ⟨back0 x F (fun c hc => (nomatch hc)), back0N x N fun _ _ => List.not_mem_nil⟩
theorem use02 (F : Fr g L h m) (N : News g L h news) (U : UpdF b o news g1) (U2 : UpdF d p (g1 o') g2) (hbd : b ≠ d) (x : Step [] [b, d] h h') (hb : h'.get? b = some o') (hd : h'.get? d = some p') : Fr g L h' m ∧ News g L h' (g2 p') := by
  have nb := (N _ (upd_in U)).2
  have dm : (d, p) ∈ news := by
    rcases upd_mem U _ (upd_in U2) with e | ⟨h, _⟩
    · cases e; exact absurd rfl hbd
    · exact h
  have nd := (N _ dm).2
  refine ⟨back0 x F fun c hc => ?_, fun q hq => ?_⟩
  · rcases List.mem_cons.mp hc with rfl | hc
    · exact ⟨nb.2, nb.1⟩
    · rw [List.mem_singleton.mp hc]; exact ⟨nd.2, nd.1⟩
  · rcases upd_mem U2 q hq with rfl | ⟨hq, hne⟩
    · exact ⟨hd, nd⟩
    · rcases upd_mem U q hq with rfl | ⟨hq, hne'⟩
      · exact ⟨hb, nb⟩
      · exact ⟨x.at (N q hq).1 (fun z => by
          rcases List.mem_cons.mp z with z | z
          · exact hne' z
          · exact hne (List.mem_singleton.mp z)) List.not_mem_nil, (N q hq).2⟩
theorem useNew (F : Fr g L h m) (hx : h.get? x = none) (ho : h'.get? x = some ox) (N : News g' L h' news) (hg : g'.get? x = none) : News g' L h' ((x, ox) :: news) := fun q hq => by
  rcases List.mem_cons.mp hq with rfl | hq
  · refine ⟨ho, fun e => ?_, hg⟩
    obtain ⟨oL, _, _, hL, _⟩ := F.ns
    rw [show x = L from e, hL] at hx; cases hx
  · exact N q hq
theorem new_none (F : Fr g L h m) (hx : h.get? x = none) : g.get? x = none := by
  cases q : g.get? x with
  | none => rfl
  | some o => rw [F.keep x o q] at hx; cases hx
noncomputable def AllNe (x : Addr) : List (Addr × Obj) → Prop
  | [] => True
  | p :: r => (@Ne Nat p.1 x) ∧ AllNe x r
theorem allNe_of : ∀ {l : List (Addr × Obj)}, (∀ p ∈ l, p.1 ≠ x) → AllNe x l
  | [], _ => trivial
  | p :: _, h => ⟨h p (.head _), allNe_of fun q hq => h q (.tail _ hq)⟩
theorem AllNe.mem : ∀ {l : List (Addr × Obj)}, AllNe x l → ∀ p ∈ l, p.1 ≠ x
  | [], _, _, h => nomatch h
  | _ :: _, y, p, h => by
    rcases List.mem_cons.mp h with rfl | h
    · exact y.1
    · exact AllNe.mem y.2 p h
theorem new_ne (N : News g L h news) (hx : h.get? x = none) : AllNe x news := allNe_of fun p hp e => by
  have := (N p hp).1
  rw [e, hx] at this; cases this
end
theorem step_cut {base h h' : Heap} {outer : List Env} {fl cb : List Addr} {bs : List (Addr × Obj)} (x : Step fl (bs.map (·.1)) h h') (H : Has base outer h bs) (hu : ∀ p ∈ bs, p.1 ∉ cb → h'.get? p.1 = some p.2) : Step fl cb h h' := fun a o ha hb => by
  by_cases hm : a ∈ bs.map (·.1)
  · obtain ⟨p, hp, rfl⟩ := List.mem_map.mp hm
    have e := (H p hp).1
    rw [ha] at e
    cases e
    have z := hu p hp hb
    exact ⟨fun _ => z, p.2.slots, z⟩
  · exact x a o ha hm
noncomputable def Dist : List (Addr × Obj) → Prop
  | [] => True
  | p :: r => AllNe p.1 r ∧ Dist r
end
end
section
open PySem PySem.W PyProof.Rows PySem.Spec PySem.Calls
noncomputable abbrev excO (C t : Addr) (dx : Option Addr) : Obj := { cls := .ref C, dict := dx, data := .fields #[.ref t, .none, .none, .none, .bool false, .none] }
noncomputable abbrev tupO (vs : List Value) : Obj := { cls := .type "tuple", data := .seq vs.toArray }
section
variable {prog : Program} {w : World} {A : Around} {R : Result → Shared → Prop} {h : Heap} {g : Array GenState} {d : Drawn} {t : Nat} {os : OsState}
variable {nm q : Str} {C N : Addr} {bs bm : List Value} {hdct : Bool} {sn : List Str} {sub : List Value} {ab : Bool} {col : Option Bool} {dd : Option Addr} {k0 k1 k2 k3 k5 : Option Value}
noncomputable def exc_new_P (prog : Program) (w : World) (A : Around) (R : Result → Shared → Prop) (h : Heap) (g : Array GenState) (d : Drawn) (t : Nat) (os : OsState) (nm : Str) (q : Str) (C : Addr) (N : Addr) (bs : List Value) (bm : List Value) (hdct : Bool) (sn : List Str) (sub : List Value) (ab : Bool) (col : Option Bool) (dd : Option Addr) (k0 : Option Value) (k1 : Option Value) (k2 : Option Value) (k3 : Option Value) (k5 : Option Value) (rest : List Value) : Prop := ∀ (hC : h.get? C = some (excClassObj nm q C N bs bm hdct sn sub ab col dd k0 k1 k2 k3 k5 "Exception.__new__")) (hcB : (Value.ref C :: bm).contains (.type "Exception") = true) (hcA : (Value.ref C :: bm).contains (.type "AttributeError") = false) (hcN : (Value.ref C :: bm).contains (.type "NameError") = false) (hq : R (.ok (.ret (.ref (h.objs.size + 1)))) ⟨(h.push (tupO rest)).push (excO C h.objs.size none), g, d, t, os⟩) (hrest : rest.length ≤ sizeLine), codeAny (model prog w) A (.call (.builtin "Exception.__new__") ⟨.ref C :: rest, []⟩) R ⟨h, g, d, t, os⟩
noncomputable def exc_new_q (x : (((((Program × World) × (Around × (Result → Shared → Prop))) × ((Heap × Array GenState) × Drawn)) × (((Nat × OsState) × (Str × Str)) × ((Addr × Addr) × List Value))) × ((((List Value × Bool) × (List Str × List Value)) × ((Bool × Option Bool) × Option Addr)) × (((Option Value × Option Value) × Option Value) × ((Option Value × Option Value) × List Value))))) : Prop := exc_new_P x.1.1.1.1.1 x.1.1.1.1.2 x.1.1.1.2.1 x.1.1.1.2.2 x.1.1.2.1.1 x.1.1.2.1.2 x.1.1.2.2 x.1.2.1.1.1 x.1.2.1.1.2 x.1.2.1.2.1 x.1.2.1.2.2 x.1.2.2.1.1 x.1.2.2.1.2 x.1.2.2.2 x.2.1.1.1.1 x.2.1.1.1.2 x.2.1.1.2.1 x.2.1.1.2.2 x.2.1.2.1.1 x.2.1.2.1.2 x.2.1.2.2 x.2.2.1.1.1 x.2.2.1.1.2 x.2.2.1.2 x.2.2.2.1.1 x.2.2.2.1.2 x.2.2.2.2
noncomputable def exc_new_c := @Classical.epsilon _ ⟨(((((PySem.Challenge.pw_sa0211_01, aWorld 1), ({}, fun _ _ => True)), (({}, default), {})), (((0, default), (Str.ofString "", Str.ofString "")), ((0, 0), []))), (((([], true), (default, [])), ((true, default), none)), (((none, none), none), ((none, none), []))))⟩ fun x => ¬ exc_new_q x
theorem exc_new_k : exc_new_q exc_new_c := by
  refine (?fq : ∀ (prog : Program) (w : World) (A : Around) (R : Result → Shared → Prop) (h : Heap) (g : Array GenState) (d : Drawn) (t : Nat) (os : OsState) (nm : Str) (q : Str) (C : Addr) (N : Addr) (bs : List Value) (bm : List Value) (hdct : Bool) (sn : List Str) (sub : List Value) (ab : Bool) (col : Option Bool) (dd : Option Addr) (k0 : Option Value) (k1 : Option Value) (k2 : Option Value) (k3 : Option Value) (k5 : Option Value) (rest : List Value), exc_new_P prog w A R h g d t os nm q C N bs bm hdct sn sub ab col dd k0 k1 k2 k3 k5 rest) _ _ _ _ _ _ _ _ _ _ _ _ _ _ _ _ _ _ _ _ _ _ _ _ _ _ _ 
  intro prog w A R h g d t os nm q C N bs bm hdct sn sub ab col dd k0 k1 k2 k3 k5 rest hC hcB hcA hcN hq hrest
  have F := PySem.F.excBase_Exception
  have hstar := F.noStar
  refine codeAny_call_builtin_code (Code.quiet_builtin _ F.quiet) ?_
  simp only [checkBuiltinCall, F.newKind, F.newSplit, F.newRow]
  repeat (first | refine wpAny_loadPart_at hC ?_ | (refine wpAny_isSubtype_exc hC ?_; rw [hcB]) | refine wpAny_staticBase_exc hC ?_ | refine wpAny_madeBy_exc hC ?_ | simp only [bne_self_eq_false, Bool.false_eq_true, if_false] | wp_step)
  have hends := F.ends
  refine codeAny_builtinAt F.entry ?_
  unfold Builtin.«BaseException.__new__»
  refine PySem.wpAt_bind ?_
  show PySem.wpAt _ _ _ (stack >>= _) _ _ _
  refine PySem.wpAt_bind (PySem.wpAt_stack fun p below => PySem.wpAt_of_wpAny ?_)
  wp_walk
  refine PySem.wpAt_of_wpAny ?_
  rw [F.owner]
  repeat (first | with_reducible refine wpAny_madeHere_exc F.canon hC ?_ | with_reducible refine wpAny_loadPart_at hC ?_ | (with_reducible refine wpAny_isSubtype_exc hC ?_; first | rw [hcB] | rw [hcA] | rw [hcN]) | wp_step)
  show R _ _
  rw [Heap.size_push]
  exact hq
theorem exc_new  {rest : List Value} (hC : h.get? C = some (excClassObj nm q C N bs bm hdct sn sub ab col dd k0 k1 k2 k3 k5 "Exception.__new__"))
    (hcB : (Value.ref C :: bm).contains (.type "Exception") = true) (hcA : (Value.ref C :: bm).contains (.type "AttributeError") = false) (hcN : (Value.ref C :: bm).contains (.type "NameError") = false)
    (hq : R (.ok (.ret (.ref (h.objs.size + 1)))) ⟨(h.push (tupO rest)).push (excO C h.objs.size none), g, d, t, os⟩) (hrest : rest.length ≤ sizeLine := by size_fits) :
    codeAny (model prog w) A (.call (.builtin "Exception.__new__") ⟨.ref C :: rest, []⟩) R ⟨h, g, d, t, os⟩ :=
  hk_ax (P := exc_new_q) _ exc_new_k (((((prog, w), (A, R)), ((h, g), d)), (((t, os), (nm, q)), ((C, N), bs))), ((((bm, hdct), (sn, sub)), ((ab, col), dd)), (((k0, k1), k2), ((k3, k5), rest)))) hC hcB hcA hcN hq hrest
end
section
variable {prog : Program} {w : World} {A : Around} {R : Result → Shared → Prop} {K : Frag} {h : Heap} {g : Array GenState} {d : Drawn} {t : Nat} {os : OsState}
variable {nm q : Str} {C N fI : Addr} {bs bm : List Value} {hdct : Bool} {sn : List Str} {sub : List Value} {ab : Bool} {col : Option Bool} {dd : Option Addr} {k0 k1 k2 k3 k5 : Option Value}
noncomputable def exc_make_P (prog : Program) (w : World) (A : Around) (R : Result → Shared → Prop) (K : Frag) (h : Heap) (g : Array GenState) (d : Drawn) (t : Nat) (os : OsState) (nm : Str) (q : Str) (C : Addr) (N : Addr) (fI : Addr) (bs : List Value) (bm : List Value) (hdct : Bool) (sn : List Str) (sub : List Value) (ab : Bool) (col : Option Bool) (dd : Option Addr) (k0 : Option Value) (k1 : Option Value) (k2 : Option Value) (k3 : Option Value) (k5 : Option Value) (rest : List Value) : Prop := ∀ (X : K.In h) (hK : K.lookup C = some (excClassObj nm q C N bs bm hdct sn sub ab col dd k0 k1 k2 k3 k5 "Exception.__new__")) (hcB : (Value.ref C :: bm).contains (.type "Exception") = true) (hcA : (Value.ref C :: bm).contains (.type "AttributeError") = false) (hcN : (Value.ref C :: bm).contains (.type "NameError") = false) (hcall : specialIn K (.ref C) "__call__" = some (some (.builtin "type.__call__"))) (htyp : instIn K (.ref C) (.type "type") = some true) (hi : findIn K (.ref C) "__init__" = some (some (.ref fI))) (hf : typeIn K (.ref fI) = some (.type "function")) (hq : codeAny (model prog w) (A.under (.builtin "type.__call__" ⟨.ref C :: rest, []⟩)) (.call (.ref fI) ⟨.ref (h.objs.size + 1) :: rest, []⟩) (InitBack (h.objs.size + 1) R) ⟨(h.push (tupO rest)).push (excO C h.objs.size none), g, d, t, os⟩) (hrest : rest.length ≤ sizeLine), codeAny (model prog w) A (.call (.ref C) ⟨rest, []⟩) R ⟨h, g, d, t, os⟩
noncomputable def exc_make_q (x : (((((Program × World) × (Around × (Result → Shared → Prop))) × ((Frag × Heap) × (Array GenState × Drawn))) × (((Nat × OsState) × (Str × Str)) × ((Addr × Addr) × Addr))) × ((((List Value × List Value) × (Bool × List Str)) × ((List Value × Bool) × Option Bool)) × (((Option Addr × Option Value) × (Option Value × Option Value)) × ((Option Value × Option Value) × List Value))))) : Prop := exc_make_P x.1.1.1.1.1 x.1.1.1.1.2 x.1.1.1.2.1 x.1.1.1.2.2 x.1.1.2.1.1 x.1.1.2.1.2 x.1.1.2.2.1 x.1.1.2.2.2 x.1.2.1.1.1 x.1.2.1.1.2 x.1.2.1.2.1 x.1.2.1.2.2 x.1.2.2.1.1 x.1.2.2.1.2 x.1.2.2.2 x.2.1.1.1.1 x.2.1.1.1.2 x.2.1.1.2.1 x.2.1.1.2.2 x.2.1.2.1.1 x.2.1.2.1.2 x.2.1.2.2 x.2.2.1.1.1 x.2.2.1.1.2 x.2.2.1.2.1 x.2.2.1.2.2 x.2.2.2.1.1 x.2.2.2.1.2 x.2.2.2.2
noncomputable def exc_make_c := @Classical.epsilon _ ⟨(((((PySem.Challenge.pw_sa0211_01, aWorld 1), ({}, fun _ _ => True)), ((default, {}), (default, {}))), (((0, default), (Str.ofString "", Str.ofString "")), ((0, 0), 0))), (((([], []), (true, default)), (([], true), default)), (((none, none), (none, none)), ((none, none), []))))⟩ fun x => ¬ exc_make_q x
theorem exc_make_k : exc_make_q exc_make_c := by
  refine (?fq : ∀ (prog : Program) (w : World) (A : Around) (R : Result → Shared → Prop) (K : Frag) (h : Heap) (g : Array GenState) (d : Drawn) (t : Nat) (os : OsState) (nm : Str) (q : Str) (C : Addr) (N : Addr) (fI : Addr) (bs : List Value) (bm : List Value) (hdct : Bool) (sn : List Str) (sub : List Value) (ab : Bool) (col : Option Bool) (dd : Option Addr) (k0 : Option Value) (k1 : Option Value) (k2 : Option Value) (k3 : Option Value) (k5 : Option Value) (rest : List Value), exc_make_P prog w A R K h g d t os nm q C N fI bs bm hdct sn sub ab col dd k0 k1 k2 k3 k5 rest) _ _ _ _ _ _ _ _ _ _ _ _ _ _ _ _ _ _ _ _ _ _ _ _ _ _ _ _ _ 
  intro prog w A R K h g d t os nm q C N fI bs bm hdct sn sub ab col dd k0 k1 k2 k3 k5 rest X hK hcB hcA hcN hcall htyp hi hf hq hrest
  have hC := X _ _ hK
  have call := looks_specialIn (M := model prog w) X hcall
  have typ := looks_instIn (M := model prog w) X htyp
  have hi' := looks_findIn (M := model prog w) X hi
  have hcC : (Value.ref C :: bm).contains (.ref C) = true := by simp
  refine codeAny_of_tree ?_
  show wpAny _ _ (callAny (.ref C) _) _ _ _
  refine nd_load hC ?_
  show wpAny _ _ (callAny.viaDunder (.ref C) _) _ _ _
  unfold callAny.viaDunder
  refine wpAny_bind (call.at ?_)
  dsimp only
  rw [tc_bind]
  refine wpAny_bind (wpAny_pure (wpAny_bind (wpAny_pure ?_)))
  refine wpAny_pure (a := Fin.again (.call (.builtin "type.__call__") ⟨.ref C :: rest, []⟩)) (And.intro rfl ?_)
  refine codeAny_call_builtin_at (Code.quiet_builtin _ (by decide +kernel)) entry_typeCall (check_slot tc_kind tc_split typ (tc_args _ _ _) ?_)
  repeat (first | with_reducible refine wpAny_loadPart_at hC ?_ | with_reducible refine wpAny_madeBy_exc hC ?_ | wp_step)
  refine exc_new hC hcB hcA hcN ?_ hrest
  have k : ∀ b o, h.get? b = some o → ((h.push (tupO rest)).push (excO C h.objs.size none)).get? b = some o := fun b o e => Heap.get?_push_of_some _ (Heap.get?_push_of_some _ e)
  have hx : ((h.push (tupO rest)).push (excO C h.objs.size none)).get? (h.objs.size + 1) = some (excO C h.objs.size none) := by heap_get
  have hC₁ := k _ _ hC
  have t1 : Looks (model prog w) ((h.push (tupO rest)).push (excO C h.objs.size none)) (typeOf (.ref (h.objs.size + 1))) (.ref C) := (Looks.ld hx).andThen .now
  have i1 := hi'.keeps k
  have b1 : Looks (model prog w) ((h.push (tupO rest)).push (excO C h.objs.size none)) (bindSpecial (.ref fI) (.ref (h.objs.size + 1))) (.ref fI, [.ref (h.objs.size + 1)]) := (bind_fn X _ hf).keeps k
  show wpAny _ _ _ _ _ _
  unfold isInstance
  repeat (first | with_reducible refine wpAny_loadPart_at hx ?_ | (with_reducible refine wpAny_isSubtype_exc hC₁ ?_; rw [hcC]) | wp_step)
  show wpAny _ _ (typeLookup (.ref C) _) _ _ _
  refine i1.at ?_
  refine wpAny_holding (wpAny_bind (b1.at ?_))
  refine wpAny_bind (wpAny_call (codeAny_mono hq fun r s' z => ?_))
  rcases r with e | (v | _ | _ | _) <;> first | exact z | exact z.elim | skip
  obtain ⟨rfl, z⟩ := z
  exact wpAny_pure (wpAny_pure z)
theorem exc_make  {rest : List Value} (X : K.In h) (hK : K.lookup C = some (excClassObj nm q C N bs bm hdct sn sub ab col dd k0 k1 k2 k3 k5 "Exception.__new__"))
    (hcB : (Value.ref C :: bm).contains (.type "Exception") = true) (hcA : (Value.ref C :: bm).contains (.type "AttributeError") = false) (hcN : (Value.ref C :: bm).contains (.type "NameError") = false)
    (hcall : specialIn K (.ref C) "__call__" = some (some (.builtin "type.__call__"))) (htyp : instIn K (.ref C) (.type "type") = some true)
    (hi : findIn K (.ref C) "__init__" = some (some (.ref fI))) (hf : typeIn K (.ref fI) = some (.type "function"))
    (hq : codeAny (model prog w) (A.under (.builtin "type.__call__" ⟨.ref C :: rest, []⟩)) (.call (.ref fI) ⟨.ref (h.objs.size + 1) :: rest, []⟩) (InitBack (h.objs.size + 1) R) ⟨(h.push (tupO rest)).push (excO C h.objs.size none), g, d, t, os⟩)
    (hrest : rest.length ≤ sizeLine := by size_fits) :
    codeAny (model prog w) A (.call (.ref C) ⟨rest, []⟩) R ⟨h, g, d, t, os⟩ :=
  hk_ax (P := exc_make_q) _ exc_make_k (((((prog, w), (A, R)), ((K, h), (g, d))), (((t, os), (nm, q)), ((C, N), fI))), ((((bs, bm), (hdct, sn)), ((sub, ab), col)), (((dd, k0), (k1, k2)), ((k3, k5), rest)))) X hK hcB hcA hcN hcall htyp hi hf hq hrest
end
end
section
open PySem PySem.W PyProof.Rows PySem.Spec PySem.Calls PySem.Builtin PySem.Builtin.ObjectAttr
theorem refuse_exc (self : Value) : ∀ {l : List Value}, (∀ v ∈ l, ∃ a, v = Value.ref a) → refuseLoop self "__setattr__" (l ++ [.type "Exception", .type "BaseException", .type "object"]) = pure ()
  | [], _ => PySem.F.store_Exception.passes self
  | v :: r, h => by
    obtain ⟨a, rfl⟩ := h v (.head _)
    rw [List.cons_append, refuseLoop_ref]
    exact refuse_exc self fun v hv => h v (.tail _ hv)
section
variable {prog : Program} {w : World} {A : Around} {K : Frag} {C x L : Addr} {s : Shared} {h₀ : Heap} {m : Str → Option Value} {news : List (Addr × Obj)} {R : Result → Shared → Prop} {E : Value → Shared → Prop} {rs : List Value} {cd : ClassData}
theorem osa_exc {ox : Obj} {od : Option Obj} {name : Str} {tk : Tok} {v : Value} (X : K.In s.heap) (I : InstAt s.heap x ox C od) (hc : clsIn K C = some cd) (hm : cd.mro = .ref C :: rs ++ [.type "Exception", .type "BaseException", .type "object"])
    (hrs : ∀ v ∈ rs, ∃ a, v = Value.ref a) (ht : takerIn K C name = some none)
    (h : ∀ b, wpAny (model prog w) A.in1 (storeInOwnDict (.ref x) (.ref C) (.str name tk) name v b)
      (fun fin s' => match fin with | .done f => R (.ok f) s' | .again c' => c'.quiet = true ∧ codeAny (model prog w) A c' R s') (fun e s' => R (.error e) s') s) :
    codeAny (model prog w) A (.call (.builtin "object.__setattr__") ⟨[.ref x, .str name tk, v], []⟩) R s := by
  have SF := PySem.F.store_object
  have ne : cd.mro.isEmpty = false := by rw [hm]; rfl
  have sub : Looks (model prog w) s.heap (isInstance (.ref x) (.type "object")) true := I.type.andThen (looks_mroIn X (by unfold mroIn; rw [hc, Option.bind_some, if_neg (by rw [ne]; decide), hm]; simp))
  refine codeAny_call_builtin SF.slot.plain SF.entry (@check_slot (model prog w) _ _ s "object.__setattr__" "object" "__setattr__" (.ref x) [.str name tk, v] [] _ SF.kind SF.split sub (SF.args (.ref x) (.str name tk) v) ?_)
  obtain ⟨attr, ha, hr⟩ := Option.bind_eq_some_iff.mp ht
  have hm' : Looks (model prog w) s.heap (mroOf (.ref C)) cd.mro := (looks_clsIn X hc).andThen .now
  have L3 : Looks (model prog w) s.heap (storeTaker? attr) none := by
    cases attr with
    | none => exact .now
    | some a =>
      obtain ⟨b, hb, hb'⟩ := Option.map_eq_some_iff.mp hr
      cases b with
      | true => simp at hb'
      | false => exact (looks_takesIn X hb).andThen .now
  rw [osa_eq, refuse_eq]
  refine wpAny_bind (wpAny_bind (I.type.here (wpAny_bind (hm'.here ?_))))
  rw [hm, refuse_exc _ (l := .ref C :: rs) (by intro v hv; rcases List.mem_cons.mp hv with rfl | hv; exact ⟨_, rfl⟩; exact hrs v hv)]
  refine wpAny_pure (wpAny_bind (I.type.here (wpAny_bind ((looks_findIn X ha).here (wpAny_bind (L3.here ?_))))))
  exact h _
theorem nsSet_at {d : Addr} {name : Str} {v : Value} {pre post : List (Addr × Obj)} {es : List DictEntry} {n : Nat} {od : Obj} {Q : Unit → Shared → Prop} (F : Fr h₀ L s.heap m) (N : News h₀ L s.heap (pre ++ (d, od) :: post))
    (ho : od = dictOf es n) (hl : (getL name es).isSome = true) (h1 : ∀ p ∈ pre, p.1 ≠ d) (h2 : ∀ p ∈ post, p.1 ≠ d) (hz : (putL name (PyData.keyHash w.params name) (.str name s.toks) v es).length ≤ 1000)
    (h : ∀ h', Fr h₀ L h' m → News h₀ L h' (pre ++ (d, dictOf (putL name (PyData.keyHash w.params name) (.str name s.toks) v es) (putN name es n)) :: post) → Q () { s with heap := h', toks := s.toks + 1 }) :
    wpAny (model prog w) A (nsSet d name v) Q E s := by
  subst ho
  obtain ⟨U1, U2⟩ := news_upd (f := Obj.putName name (PyData.keyHash w.params name) (.str name s.toks) v) F N h1 h2 (putName_dict name (PyData.keyHash w.params name) (.str name s.toks) v es n) rfl
  have D := (N (d, dictOf es n) (by simp)).1
  unfold nsSet
  refine wpAny_bind (wpAny_bind (wpAny_askSetting (wpAny_pure (wpAny_bind (wpAny_mkText (wpAny_bind (wpAny_loadPart D ?_)))))))
  dsimp only
  have c : aRefKeyMayBeTheName name es.toArray = false := by
    rw [aRefKeyMayBeTheName_at, ← Array.any_toList, ← Array.any_toList]
    unfold getL at hl
    split at hl
    · rename_i en he
      rw [List.any_eq_true.mpr ⟨en, List.mem_of_find?_eq_some he, List.find?_some he⟩]; rfl
    · split at hl
      · cases hl
      · rename_i z; rw [Bool.not_eq_true] at z; rw [z, Bool.and_false]
  rw [c]
  refine wpAny_updatePart D ?_
  exact h _ U1 U2
theorem storeInDict_at {d : Addr} {name : Str} {tk : Tok} {v : Value} {pre post : List (Addr × Obj)} {es : List DictEntry} {n : Nat} {od : Obj} {Q : PySem.Fin → Shared → Prop} (F : Fr h₀ L s.heap m) (N : News h₀ L s.heap (pre ++ (d, od) :: post))
    (ho : od = dictOf es n) (hl : (getL name es).isSome = true) (h1 : ∀ p ∈ pre, p.1 ≠ d) (h2 : ∀ p ∈ post, p.1 ≠ d) (hz : (putL name (PyData.keyHash w.params name) (.str name s.toks) v es).length ≤ 1000)
    (h : ∀ h', Fr h₀ L h' m → News h₀ L h' (pre ++ (d, dictOf (putL name (PyData.keyHash w.params name) (.str name s.toks) v es) (putN name es n)) :: post) → Q (.done (.ret .none)) { s with heap := h', toks := s.toks + 1 }) :
    wpAny (model prog w) A (storeInDict d (.str name tk) name v) Q E s := by
  unfold storeInDict
  refine wpAny_bind (wpAny_pure (wpAny_bind (nsSet_at F N ho hl h1 h2 hz fun h' F' N' => ?_)))
  have D' := (N' (d, dictOf (putL name (PyData.keyHash w.params name) (.str name s.toks) v es) (putN name es n)) (by simp)).1
  refine wpAny_bind (wpAny_lookBehind D' (pastItsLine_dict (by rw [List.size_toArray, sizeLine_eq]; omega)) ?_)
  exact wpAny_pure (h h' F' N')
theorem instDict_new {e t : Addr} {pre post : List (Addr × Obj)} {Q : Option Addr → Shared → Prop} (F : Fr h₀ L s.heap m) (N : News h₀ L s.heap (pre ++ (e, excO C t none) :: post)) (X : K.In s.heap) (hc : clsIn K C = some cd) (hd : cd.hasDict = true)
    (h1 : ∀ p ∈ pre, p.1 ≠ e) (h2 : ∀ p ∈ post, p.1 ≠ e)
    (h : ∀ d h', Fr h₀ L h' m → News h₀ L h' ((d, dictOf [] 0) :: (pre ++ (e, excO C t (some d)) :: post)) → (∀ p ∈ pre ++ (e, excO C t (some d)) :: post, p.1 < d) → Q (some d) { s with heap := h' }) :
    wpAny (model prog w) A (instanceDict e true) Q E s := by
  have D := (N (e, excO C t none) (by simp)).1
  unfold instanceDict
  refine wpAny_bind (wpAny_loadPart D ?_)
  dsimp only
  refine wpAny_bind ((looks_clsIn X hc).here ?_)
  rw [hd]
  have F1 := F.push emptyDict
  have N1 := N.push F emptyDict
  have lt : ∀ p ∈ pre ++ (e, excO C t (some s.heap.objs.size)) :: post, p.1 < s.heap.objs.size := fun p hp => by
    rcases List.mem_append.mp hp with hp | hp
    · exact Heap.lt_size (N p (List.mem_append_left _ hp)).1
    · rcases List.mem_cons.mp hp with rfl | hp
      · exact Heap.lt_size D
      · exact Heap.lt_size (N p (List.mem_append_right _ (.tail _ hp))).1
  have eN : (s.heap.objs.size, emptyDict) :: (pre ++ (e, excO C t none) :: post) = ((s.heap.objs.size, emptyDict) :: pre) ++ (e, excO C t none) :: post := rfl
  rw [eN] at N1
  obtain ⟨U1, U2⟩ := news_upd (f := fun o => { o with dict := some s.heap.objs.size }) (o' := excO C t (some s.heap.objs.size)) F1 N1 (fun p hp => by
    rcases List.mem_cons.mp hp with rfl | hp
    · exact Nat.ne_of_gt (Heap.lt_size D)
    · exact h1 p hp) h2 rfl rfl
  have D1 := (N1 (e, excO C t none) (by simp)).1
  refine wpAny_bind (wpAny_alloc ?_)
  refine wpAny_bind (wpAny_update (s := { s with heap := s.heap.push emptyDict }) D1 ?_)
  exact wpAny_pure (h _ _ U1 U2 lt)
theorem setx_new {e t : Addr} {gg : Obj → List (Addr × Obj)} {name : Str} {v : Value} {Q : Unit → Shared → Prop} (F : Fr h₀ L s.heap m) (X₀ : K.In h₀) (N : News h₀ L s.heap news) (U : UpdF e (excO C t none) news gg)
    (hc : clsIn K C = some cd) (hm : cd.mro = .ref C :: rs ++ [.type "Exception", .type "BaseException", .type "object"]) (hrs : ∀ v ∈ rs, ∃ a, v = Value.ref a) (ht : takerIn K C name = some none) (hd : cd.hasDict = true)
    (hs : findIn K (.ref C) "__setattr__" = some (some (.builtin "object.__setattr__")))
    (h : ∀ d h', Fr h₀ L h' m → News h₀ L h' ((d, dictOf [⟨PyData.keyHash w.params name, .str name (s.toks + 1), v⟩] 1) :: gg (excO C t (some d))) → (∀ p ∈ gg (excO C t (some d)), p.1 < d) → Q () { s with heap := h', toks := s.toks + 2 }) :
    wpAny (model prog w) A (setAttr (.ref e) name v) Q E s := by
  obtain ⟨pre, post, rfl, hg, h1, h2⟩ := U.split
  have X := X₀.keeps F.keep
  have I : InstAt s.heap e (excO C t none) C none := ⟨(N (e, excO C t none) (by simp)).1, rfl, rfl, trivial⟩
  refine set_plain X I hs (osa_exc (s := { s with toks := s.toks + 1 }) X I hc hm hrs ht fun b => ?_)
  unfold storeInOwnDict
  refine wpAny_bind (wpAny_pure ?_)
  refine wpAny_bind (instDict_new (s := { s with toks := s.toks + 1 }) F N X hc hd h1 h2 fun d h' F' N' lt => ?_)
  refine storeInDict_at (w := w) (s := ⟨h', s.gens, s.drawn, s.toks + 1, s.os⟩) (pre := []) F' N' rfl rfl (fun _ h => nomatch h) (fun p hp => Nat.ne_of_lt (lt p hp)) (by simp [putL]) fun h'' F'' N'' => ?_
  have z := h d h'' F'' (by rw [hg]; exact N'') (by rw [hg]; exact lt)
  exact z
theorem setx_old {e t dx : Addr} {news' : List (Addr × Obj)} {es es' : List DictEntry} {n n' : Nat} {name : Str} {v : Value} {Q : Unit → Shared → Prop} (F : Fr h₀ L s.heap m) (X₀ : K.In h₀) (N : News h₀ L s.heap news) (he : (e, excO C t (some dx)) ∈ news) (_hx : (dx, dictOf es n) ∈ news)
    (hc : clsIn K C = some cd) (hm : cd.mro = .ref C :: rs ++ [.type "Exception", .type "BaseException", .type "object"]) (hrs : ∀ v ∈ rs, ∃ a, v = Value.ref a) (ht : takerIn K C name = some none) (hd : cd.hasDict = true)
    (hs : findIn K (.ref C) "__setattr__" = some (some (.builtin "object.__setattr__"))) (hl : (getL name es).isSome = true)
    (e' : (putL name (PyData.keyHash w.params name) (.str name (s.toks + 1)) v es, putN name es n) = (es', n')) (U : Upd dx (dictOf es n) (dictOf es' n') news news') (hz : es'.length ≤ 1000)
    (h : ∀ h', Fr h₀ L h' m → News h₀ L h' news' → Q () { s with heap := h', toks := s.toks + 2 }) :
    wpAny (model prog w) A (setAttr (.ref e) name v) Q E s := by
  obtain ⟨pre, post, rfl, rfl, h1, h2⟩ := U.split
  obtain ⟨e1, e2⟩ := Prod.mk.inj e'
  subst e1 e2
  have X := X₀.keeps F.keep
  have I : InstAt s.heap e (excO C t (some dx)) C (some (dictOf es n)) := ⟨(N _ he).1, rfl, rfl, (N (dx, dictOf es n) (by simp)).1⟩
  refine set_plain X I hs (osa_exc (s := { s with toks := s.toks + 1 }) X I hc hm hrs ht fun b => ?_)
  unfold storeInOwnDict
  refine wpAny_bind (wpAny_pure ?_)
  have hi : ∀ {Q : Option Addr → Shared → Prop} {E : Value → Shared → Prop}, Q (some dx) { s with toks := s.toks + 1 } → wpAny (model prog w) A.in1 (instanceDict e true) Q E { s with toks := s.toks + 1 } := fun q => by
    unfold instanceDict
    refine wpAny_bind (wpAny_loadPart (s := { s with toks := s.toks + 1 }) (N _ he).1 ?_)
    dsimp only
    refine wpAny_bind (Looks.here (s := { s with toks := s.toks + 1 }) (looks_clsIn X hc) ?_)
    rw [hd]
    exact wpAny_pure q
  refine wpAny_bind (hi ?_)
  exact storeInDict_at (w := w) (s := { s with toks := s.toks + 1 }) F N rfl hl h1 h2 hz fun h'' F'' N'' => h h'' F'' N''
end
end
section
open PySem PySem.W PyProof.Rows PySem.Spec PySem.Calls PySem.Builtin PySem.Builtin.ObjectAttr
theorem xi_kind : builtinKind "Exception.__init__" = some .slot := by decide +kernel
theorem xi_split : splitId "Exception.__init__" = some ("Exception", "__init__") := by decide +kernel
section
variable {M : Model} {A : Around} {E : Value → Shared → Prop} {h : Heap} {g : Array GenState} {d : Drawn} {t : Nat} {os : OsState}
variable {nm q : Str} {C N : Addr} {bs bm : List Value} {hdct : Bool} {sn : List Str} {sub : List Value} {ab : Bool} {col : Option Bool} {dd : Option Addr} {k0 k1 k2 k3 k5 : Option Value} {newId : String}
theorem xi_check {e : Addr} {oe : Obj} {rest : List Value} {Q : Unit → Shared → Prop}
    (hC : h.get? C = some (excClassObj nm q C N bs bm hdct sn sub ab col dd k0 k1 k2 k3 k5 newId)) (he : h.get? e = some oe) (hcls : oe.cls = .ref C) (hcB : (Value.ref C :: bm).contains (.type "Exception") = true) (hq : Q () ⟨h, g, d, t, os⟩) :
    wpAny M A (checkBuiltinCall "Exception.__init__" ⟨.ref e :: rest, []⟩) Q E ⟨h, g, d, t, os⟩ := by
  have F := PySem.F.excBase_Exception
  have hshort := F.noStar
  simp only [checkBuiltinCall, F.initKind, F.initSplit, F.initRow]
  repeat (first | (with_reducible refine wpAny_loadPart_at he ?_; rw [hcls]) | with_reducible refine wpAny_loadPart_at hC ?_ | (with_reducible refine wpAny_isSubtype_exc hC ?_; rw [hcB]) | wp_step)
  refine wpAny_onRaise ?_
  rw [show ∀ (a b : String) (n : Nat), Bind.check ⟨.positional, "*", "Exception", .self, [⟨"args", .varPos, false⟩]⟩ a b n (List.map (fun x => x.fst) ({ pos := Value.ref e :: rest } : Args).kw) = pure () from
    fun a b n => check_star_args _ _ _ _ _ _]
  exact wpAny_pure hq
end
section
variable {prog : Program} {w : World} {A : Around} {K : Frag} {C L : Addr} {s : Shared} {h₀ : Heap} {m : Str → Option Value} {news : List (Addr × Obj)} {E : Value → Shared → Prop}
theorem exInit_K {e t : Addr} {v : Value} {gg : Obj → List (Addr × Obj)} {Q : Value → Shared → Prop} (F : Fr h₀ L s.heap m) (X₀ : K.In h₀) (N : News h₀ L s.heap news) (U : UpdF e (excO C t none) news gg)
    {nm q : Str} {N' : Addr} {bs bm : List Value} {hdct : Bool} {sn : List Str} {sub : List Value} {ab : Bool} {col : Option Bool} {dd : Option Addr} {k0 k1 k2 k3 k5 : Option Value}
    (hK : K.lookup C = some (excClassObj nm q C N' bs bm hdct sn sub ab col dd k0 k1 k2 k3 k5 "Exception.__new__")) (hcB : (Value.ref C :: bm).contains (.type "Exception") = true)
    (k : ∀ t' h', Fr h₀ L h' m → News h₀ L h' ((t', tupO [v]) :: gg (excO C t' none)) → (∀ p ∈ gg (excO C t' none), p.1 < t') → Q .none { s with heap := h' }) :
    wpAny (model prog w) A (call (.builtin "Exception.__init__") [.ref e, v]) Q E s := by
  obtain ⟨pre, post, rfl, hg, h1, h2⟩ := U.split
  have X := X₀.keeps F.keep
  have D := (N (e, excO C t none) (by simp)).1
  have I : W.InstAt s.heap e (excO C t none) C none := ⟨D, rfl, rfl, trivial⟩
  have FX := PySem.F.excBase_Exception
  refine wpAny_call (codeAny_call_builtin FX.init.plain FX.initEntry (xi_check (X _ _ hK) D rfl hcB ?_))
  have F1 := F.push (tupO [v])
  have N1 := N.push F (tupO [v])
  have lt : ∀ p ∈ pre ++ (e, excO C s.heap.objs.size none) :: post, p.1 < s.heap.objs.size := fun p hp => by
    rcases List.mem_append.mp hp with hp | hp
    · exact Heap.lt_size (N p (List.mem_append_left _ hp)).1
    · rcases List.mem_cons.mp hp with rfl | hp
      · exact Heap.lt_size D
      · exact Heap.lt_size (N p (List.mem_append_right _ (.tail _ hp))).1
  have eN : (s.heap.objs.size, tupO [v]) :: (pre ++ (e, excO C t none) :: post) = ((s.heap.objs.size, tupO [v]) :: pre) ++ (e, excO C t none) :: post := rfl
  rw [eN] at N1
  obtain ⟨U1, U2⟩ := news_upd (f := Obj.mapFields (·.setIfInBounds 0 (.ref s.heap.objs.size))) (o' := excO C s.heap.objs.size none) F1 N1 (fun p hp => by
    rcases List.mem_cons.mp hp with rfl | hp
    · exact Nat.ne_of_gt (Heap.lt_size D)
    · exact h1 p hp) h2 rfl rfl
  have D1 := (N1 (e, excO C t none) (by simp)).1
  have z := k s.heap.objs.size _ U1 (by rw [hg]; exact U2) (by rw [hg]; exact lt)
  obtain ⟨hh, g, d, tk, os⟩ := s
  dsimp only at D D1 z ⊢
  unfold Builtin.«BaseException.__init__»
  wp_walk
  exact z
end
end
section
open PySem PySem.W PyProof.Rows PySem.Spec PySem.Calls
theorem meta_exc : typeOf (.type "Exception") = pure (.type "type") := by kernel_rfl
theorem line_M5_1 : True := by
  k_with_none
  w_top off
  k_with "my:k_ne" => ((try dsimp only); first | assumption | exact Ne.symm (by assumption) | exact Nat.ne_of_lt (lt_at (by assumption) (by k_mem)) | exact Nat.ne_of_gt (lt_at (by assumption) (by k_mem)) | (refine neN ?_; omega))
  k_with "my:k_mem" => (first | exact m0_ | exact m1_ | exact m2_ | exact m3_ | exact m4_ | exact m5_ | exact m6_ | exact m7_ | (refine m8s_ ?_; k_mem))
  k_with "getMethod type:Exception" => ((k_here; refine' method_type ?FZ ?XZ ?mZ (by decide +kernel) ?eZ ?hZ ?_; (case FZ => k_asm); (case XZ => k_asm); (case mZ => exact meta_exc); (case eZ => k_dflt k_is); (case hZ => k_handed)))
  k_with "call builtin:Exception.__init__" => ((k_here; k_dflt (refine' exInit_K ?FZ ?XZ ?NZ ?UZ ?KZ ?cZ ?_; (case FZ => k_asm); (case XZ => k_asm); (case NZ => k_asm); (case UZ => k_updF); (case KZ => k_is); (case cZ => rfl); k_whole); intro t' h' F' N' l1; (try dsimp only at N' l1); (try k_lt l1); (try k_sweep)))
  k_with "setAttr ref" => ((k_here; k_dflt (first
  | (refine' setx_new (rs := ?rsz10990) ?FZ ?XZ ?NZ ?UZ ?cZ ?mZ ?rZ ?tZ ?dZ ?sZ ?_; (case FZ => k_asm); (case XZ => k_asm); (case NZ => k_asm); (case UZ => k_updF); (case cZ => k_is); (case mZ => first | exact rfl (a := _ :: [] ++ _) | exact rfl (a := _ :: [_] ++ _) | exact rfl (a := _ :: [_, _] ++ _)); (case rZ => simp); (case tZ => k_is); (case dZ => rfl); (case sZ => k_is); k_whole; intro d' h' F' N' l1; (try dsimp only at N' l1); (try k_lt l1); (try k_sweep))
  | (refine' setx_old (rs := ?rsz10990) ?FZ ?XZ ?NZ ?heZ ?hxZ ?cZ ?mZ ?rZ ?tZ ?dZ ?sZ ?glZ ?puZ ?UZ ?zZ ?_; (case FZ => k_asm); (case XZ => k_asm); (case NZ => k_asm); (case heZ => k_mem); (case hxZ => k_mem); (case cZ => k_is); (case mZ => first | exact rfl (a := _ :: [] ++ _) | exact rfl (a := _ :: [_] ++ _) | exact rfl (a := _ :: [_, _] ++ _)); (case rZ => simp); (case tZ => k_is); (case dZ => rfl); (case sZ => k_is); (case glZ => k_get); (case puZ => k_put); (case UZ => k_upd); (case zZ => exact Nat.le_of_ble_eq_true rfl); k_whole; intro h' F' N'; (try k_sweep)))))
  k_with "my_enter" => ((
  (case ho => k_is)
  (case hcd => k_is)
  (case hbind => exact BindsTo.of_eq rfl)
  (case hloc => exact locs rfl)
  (case hco => exact rfl)
  (case hgen => exact rfl)
  (case hk => exact rfl)
  (case hcell => decide)))
  trivial
section
variable {prog : Program} {w : World} {A : Around} {s : Shared} {base : Heap} {outer : List Env} {mean : ExcName → Option Value} {mg mb : Str → Option Value}
  {R : Result → Shared → Prop}
theorem f77_init51 {e t : Addr} {v : Value} (S : St w mean mg mb base) (B : Below A base outer s.heap) (Rm : Room A 1)
    (H : Has base outer s.heap [(e, excO 51 t none)])
    (k : ∀ h' tk t' d' tx, Step [] [e] s.heap h' → h'.get? e = some (excO 51 t' (some d')) → h'.get? d' = some (dictOf [⟨PyData.keyHash w.params "text", .str "text" tx, v⟩] 1) → s.heap.get? d' = none → R (.ok (.ret .none)) { s with heap := h', toks := tk }) :
    codeAny (model prog w) A (.call (.ref 28) ⟨[.ref e, v], []⟩) R s := by
  refine' enter [(e, excO 51 t none)] S B Rm.d H ?ho ?hcd ?hbind ?hloc ?h ?hco ?hgen ?hk ?hcell
  walk_at "my_enter"
  intro g L' h₁ F N B' X T hold hg hL
  dsimp only
  try k_fold
  k_steps
  all_goals refine k _ _ _ _ _ (end0 hold (by k_asm)) (News.get (by k_asm) (by k_mem)) (News.get (by k_asm) (by k_mem)) (fresh_in hold (by k_asm) (by k_mem) ?_)
  all_goals (intro q hq; rw [List.mem_singleton.mp hq]; k_ne)
theorem f77_init51_K {hpS : Heap} {gnS : Array GenState} {drS : Drawn} {tkS : Nat} {osS : OsState} {e t L a : Addr} {v : Value} {g : Heap} {m : Str → Option Value} {news : List (Addr × Obj)} {gg : Obj → List (Addr × Obj)} {cn : Str} {cs : Scope} {ccd : Value} {Q : Value → Shared → Prop} {E : Value → Shared → Prop}
    (S : St w mean mg mb base) (B : Below A base outer g) (F : Fr g L hpS m) (N : News g L hpS news) (Rm : Room A 2) (U : UpdF e (excO 51 t none) news gg)
    (k : ∀ h' tk t' d' tx, Fr g L h' m → News g L h' ((d', dictOf [⟨PyData.keyHash w.params "text", .str "text" tx, v⟩] 1) :: gg (excO 51 t' (some d'))) → AllNe d' news → Q .none ⟨h', gnS, drS, tk, osS⟩)
    (hk : cs.kind = .function := by rfl) :
    wpAny (model prog w) (A.deeper (envOf cn cs L a ccd)) (call (.ref 28) [.ref e, v]) Q E ⟨hpS, gnS, drS, tkS, osS⟩ := by
  refine wpAny_call (f77_init51 S (B.push F hk) (Rm.deeper (by decide)) (has_of B N fun p hp => by rw [List.mem_singleton.mp hp]; exact upd_in U) fun h' tk t' d' tx x1 x2 x3 x4 => ?_)
  obtain ⟨F', N'⟩ := use0 F N U x1 x2
  exact k h' tk t' d' tx F' (useNew F x4 x3 N' (new_none F x4)) (new_ne N x4)
theorem f77_init70 {e t : Addr} {v : Value} (S : St w mean mg mb base) (B : Below A base outer s.heap) (Rm : Room A 1)
    (H : Has base outer s.heap [(e, excO 70 t none)])
    (k : ∀ h' tk t' d' tx, Step [] [e] s.heap h' → h'.get? e = some (excO 70 t' (some d')) → h'.get? d' = some (dictOf [⟨PyData.keyHash w.params "text", .str "text" tx, v⟩] 1) → s.heap.get? d' = none → R (.ok (.ret .none)) { s with heap := h', toks := tk }) :
    codeAny (model prog w) A (.call (.ref 28) ⟨[.ref e, v], []⟩) R s := by
  refine' enter [(e, excO 70 t none)] S B Rm.d H ?ho ?hcd ?hbind ?hloc ?h ?hco ?hgen ?hk ?hcell
  walk_at "my_enter"
  intro g L' h₁ F N B' X T hold hg hL
  dsimp only
  try k_fold
  k_steps
  all_goals refine k _ _ _ _ _ (end0 hold (by k_asm)) (News.get (by k_asm) (by k_mem)) (News.get (by k_asm) (by k_mem)) (fresh_in hold (by k_asm) (by k_mem) ?_)
  all_goals (intro q hq; rw [List.mem_singleton.mp hq]; k_ne)
theorem f77_init70_K {hpS : Heap} {gnS : Array GenState} {drS : Drawn} {tkS : Nat} {osS : OsState} {e t L a : Addr} {v : Value} {g : Heap} {m : Str → Option Value} {news : List (Addr × Obj)} {gg : Obj → List (Addr × Obj)} {cn : Str} {cs : Scope} {ccd : Value} {Q : Value → Shared → Prop} {E : Value → Shared → Prop}
    (S : St w mean mg mb base) (B : Below A base outer g) (F : Fr g L hpS m) (N : News g L hpS news) (Rm : Room A 2) (U : UpdF e (excO 70 t none) news gg)
    (k : ∀ h' tk t' d' tx, Fr g L h' m → News g L h' ((d', dictOf [⟨PyData.keyHash w.params "text", .str "text" tx, v⟩] 1) :: gg (excO 70 t' (some d'))) → AllNe d' news → Q .none ⟨h', gnS, drS, tk, osS⟩)
    (hk : cs.kind = .function := by rfl) :
    wpAny (model prog w) (A.deeper (envOf cn cs L a ccd)) (call (.ref 28) [.ref e, v]) Q E ⟨hpS, gnS, drS, tkS, osS⟩ := by
  refine wpAny_call (f77_init70 S (B.push F hk) (Rm.deeper (by decide)) (has_of B N fun p hp => by rw [List.mem_singleton.mp hp]; exact upd_in U) fun h' tk t' d' tx x1 x2 x3 x4 => ?_)
  obtain ⟨F', N'⟩ := use0 F N U x1 x2
  exact k h' tk t' d' tx F' (useNew F x4 x3 N' (new_none F x4)) (new_ne N x4)
theorem line_M5_2 : True := by
  k_with "call ref" => ((k_here; (with_reducible show wpAny _ _ (PySem.call (Value.ref 28) [Value.ref _, _]) _ _ _); k_dflt (first
  | (refine' f77_init51_K ?SZ ?BZ ?FZ ?NZ ?RZ ?UZ ?_; (case SZ => assumption); (case BZ => assumption); (case FZ => k_asm); (case NZ => k_asm); (case RZ => exact Room.less (by assumption) (by decide)); (case UZ => k_updF); k_whole)
  | (refine' f77_init70_K ?SZ ?BZ ?FZ ?NZ ?RZ ?UZ ?_; (case SZ => assumption); (case BZ => assumption); (case FZ => k_asm); (case NZ => k_asm); (case RZ => exact Room.less (by assumption) (by decide)); (case UZ => k_updF); k_whole)); intro h' tk' t' d' tx' F' N' l1; (try dsimp only at N'); (try simp only [AllNe, and_true] at l1); (try k_sweep)))
  trivial
theorem io_init51 {e t : Addr} {v cv : Value} (S : St w mean mg mb base) (B : Below A base outer s.heap) (Rm : Room A 2)
    (H : Has base outer s.heap [(e, excO 51 t none)])
    (k : ∀ h' tk t' d' tx ty, Step [] [e] s.heap h' → h'.get? e = some (excO 51 t' (some d')) → h'.get? d' = some (dictOf [⟨PyData.keyHash w.params "text", .str "text" tx, v⟩, ⟨PyData.keyHash w.params "code", .str "code" ty, cv⟩] 2) → s.heap.get? d' = none → R (.ok (.ret .none)) { s with heap := h', toks := tk }) :
    codeAny (model prog w) A (.call (.ref 48) ⟨[.ref e, cv, v], []⟩) R s := by
  refine' enter [(e, excO 51 t none)] S B Rm.d H ?ho ?hcd ?hbind ?hloc ?h ?hco ?hgen ?hk ?hcell
  walk_at "my_enter"
  intro g L' h₁ F N B' X T hold hg hL
  dsimp only
  try k_fold
  k_steps
  all_goals refine k _ _ _ _ _ _ (end0 hold (by k_asm)) (News.get (by k_asm) (by k_mem)) (News.get (by k_asm) (by k_mem)) (fresh_in hold (by k_asm) (by k_mem) ?_)
  all_goals (intro q hq; rw [List.mem_singleton.mp hq]; k_ne)
theorem io_init70 {e t : Addr} {v cv : Value} (S : St w mean mg mb base) (B : Below A base outer s.heap) (Rm : Room A 2)
    (H : Has base outer s.heap [(e, excO 70 t none)])
    (k : ∀ h' tk t' d' tx ty, Step [] [e] s.heap h' → h'.get? e = some (excO 70 t' (some d')) → h'.get? d' = some (dictOf [⟨PyData.keyHash w.params "text", .str "text" tx, v⟩, ⟨PyData.keyHash w.params "code", .str "code" ty, cv⟩] 2) → s.heap.get? d' = none → R (.ok (.ret .none)) { s with heap := h', toks := tk }) :
    codeAny (model prog w) A (.call (.ref 48) ⟨[.ref e, cv, v], []⟩) R s := by
  refine' enter [(e, excO 70 t none)] S B Rm.d H ?ho ?hcd ?hbind ?hloc ?h ?hco ?hgen ?hk ?hcell
  walk_at "my_enter"
  intro g L' h₁ F N B' X T hold hg hL
  dsimp only
  try k_fold
  k_steps
  all_goals refine k _ _ _ _ _ _ (end0 hold (by k_asm)) (News.get (by k_asm) (by k_mem)) (News.get (by k_asm) (by k_mem)) (fresh_in hold (by k_asm) (by k_mem) ?_)
  all_goals (intro q hq; rw [List.mem_singleton.mp hq]; k_ne)
theorem io_init70_K {hpS : Heap} {gnS : Array GenState} {drS : Drawn} {tkS : Nat} {osS : OsState} {e t L a : Addr} {v cv : Value} {g : Heap} {m : Str → Option Value} {news : List (Addr × Obj)} {gg : Obj → List (Addr × Obj)} {cn : Str} {cs : Scope} {ccd : Value} {Q : Value → Shared → Prop} {E : Value → Shared → Prop}
    (S : St w mean mg mb base) (B : Below A base outer g) (F : Fr g L hpS m) (N : News g L hpS news) (Rm : Room A 3) (U : UpdF e (excO 70 t none) news gg)
    (k : ∀ h' tk t' d' tx ty, Fr g L h' m → News g L h' ((d', dictOf [⟨PyData.keyHash w.params "text", .str "text" tx, v⟩, ⟨PyData.keyHash w.params "code", .str "code" ty, cv⟩] 2) :: gg (excO 70 t' (some d'))) → AllNe d' news → Q .none ⟨h', gnS, drS, tk, osS⟩)
    (hk : cs.kind = .function := by rfl) :
    wpAny (model prog w) (A.deeper (envOf cn cs L a ccd)) (call (.ref 48) [.ref e, cv, v]) Q E ⟨hpS, gnS, drS, tkS, osS⟩ := by
  refine wpAny_call (io_init70 S (B.push F hk) (Rm.deeper (by decide)) (has_of B N fun p hp => by rw [List.mem_singleton.mp hp]; exact upd_in U) fun h' tk t' d' tx ty x1 x2 x3 x4 => ?_)
  obtain ⟨F', N'⟩ := use0 F N U x1 x2
  exact k h' tk t' d' tx ty F' (useNew F x4 x3 N' (new_none F x4)) (new_ne N x4)
theorem line_M5_3 : True := by
  k_with "call ref" => ((k_here; (with_reducible show wpAny _ _ (PySem.call (Value.ref 48) [Value.ref _, _, _]) _ _ _); k_dflt (first
  | (refine' io_init70_K ?SZ ?BZ ?FZ ?NZ ?RZ ?UZ ?_; (case SZ => assumption); (case BZ => assumption); (case FZ => k_asm); (case NZ => k_asm); (case RZ => exact Room.less (by assumption) (by decide)); (case UZ => k_updF); k_whole)); intro h' tk' t' d' tx' ty' F' N' l1; (try dsimp only at N'); (try simp only [AllNe, and_true] at l1); (try k_sweep)))
  trivial
theorem end_init {e t : Addr} {v : Value} (S : St w mean mg mb base) (B : Below A base outer s.heap) (Rm : Room A 3)
    (H : Has base outer s.heap [(e, excO 70 t none)])
    (k : ∀ h' tk t' d' tx ty tz, Step [] [e] s.heap h' → h'.get? e = some (excO 70 t' (some d')) → h'.get? d' = some (dictOf [⟨PyData.keyHash w.params "text", .str "text" tx, v⟩, ⟨PyData.keyHash w.params "code", .str "code" ty, .int (-1) tz⟩] 2) → s.heap.get? d' = none → R (.ok (.ret .none)) { s with heap := h', toks := tk }) :
    codeAny (model prog w) A (.call (.ref 67) ⟨[.ref e, v], []⟩) R s := by
  refine' enter [(e, excO 70 t none)] S B Rm.d H ?ho ?hcd ?hbind ?hloc ?h ?hco ?hgen ?hk ?hcell
  walk_at "my_enter"
  intro g L' h₁ F N B' X T hold hg hL
  dsimp only
  try k_fold
  k_steps
  all_goals refine k _ _ _ _ _ _ _ (end0 hold (by k_asm)) (News.get (by k_asm) (by k_mem)) (News.get (by k_asm) (by k_mem)) (fresh_in hold (by k_asm) (by k_mem) ?_)
  all_goals (intro q hq; rw [List.mem_singleton.mp hq]; k_ne)
end
end
section
open PySem PySem.W PyProof.Rows PySem.Spec PySem.Calls
section
variable {A : Around} {base h : Heap} {outer : List Env} {n : Nat}
theorem below_push (B : Below A base outer h) (o : Obj) : Below A base outer (h.push o) :=
  ⟨B.stack, fun b x e => Heap.get?_push_of_some _ (B.stays b x e), B.frames.of_keeps fun b x e _ => ⟨x, Heap.get?_push_of_some _ e, rfl⟩⟩
theorem below_under {c : Code} (B : Below A base outer h) (hc : c.envs = []) : Below (A.under c) base outer h :=
  ⟨by show pushEnvs c.envs A.frames = _; rw [hc]; exact B.stack, B.stays, B.frames⟩
theorem make_envs (C : Addr) (rest : List Value) : (Code.builtin "type.__call__" ⟨.ref C :: rest, []⟩).envs = [] := rfl
theorem room_make {C : Addr} {rest : List Value} (R : Room A (n + 1)) : Room (A.under (.builtin "type.__call__" ⟨.ref C :: rest, []⟩)) n := by
  obtain ⟨h1, h2, h3⟩ := R
  have e1 : (Code.builtin "type.__call__" ⟨.ref C :: rest, []⟩).weight = 1 := by
    simp only [Code.weight]
    rfl
  have e2 : (Code.builtin "type.__call__" ⟨.ref C :: rest, []⟩).cUnits ≤ 40 := by
    have e0 : (Code.builtin "type.__call__" ⟨.ref C :: rest, []⟩).frames = 0 := rfl
    show 1 + 3 * (Code.builtin "type.__call__" ⟨.ref C :: rest, []⟩).frames ≤ 40
    rw [e0]; decide
  refine ⟨h1, ?_, ?_⟩
  · show A.depth + (Code.builtin "type.__call__" ⟨.ref C :: rest, []⟩).weight + n < recursionLimit
    rw [e1]; omega
  · show A.units + (Code.builtin "type.__call__" ⟨.ref C :: rest, []⟩).cUnits + 40 * n < cLine
    omega
end
section
variable {prog : Program} {w : World} {A : Around} {s : Shared} {base : Heap} {outer : List Env} {mean : ExcName → Option Value} {mg mb : Str → Option Value}
  {R : Result → Shared → Prop}
theorem mk51 {v cv : Value} (S : St w mean mg mb base) (B : Below A base outer s.heap) (Rm : Room A 3)
    (k : ∀ h' tk e t' d' tx ty, Step [] [] s.heap h' → h'.get? e = some (excO 51 t' (some d')) → h'.get? d' = some (dictOf [⟨PyData.keyHash w.params "text", .str "text" tx, v⟩, ⟨PyData.keyHash w.params "code", .str "code" ty, cv⟩] 2) →
      s.heap.get? e = none → s.heap.get? d' = none → e ≠ d' → R (.ok (.ret (.ref e))) { s with heap := h', toks := tk }) :
    codeAny (model prog w) A (.call (.ref 51) ⟨[cv, v], []⟩) R s := by
  obtain ⟨h, g, d, t, os⟩ := s
  dsimp only at B k
  have X := S.X.keeps B.stays
  refine' exc_make X ?K ?b ?a ?n ?c ?t ?i ?f ?_
  (case K => k_is)
  (case b => rfl)
  (case a => rfl)
  (case n => rfl)
  (case c => k_is)
  (case t => k_is)
  (case i => k_is)
  (case f => k_is)
  have hx : ((h.push (tupO [cv, v])).push (excO 51 h.objs.size none)).get? (h.objs.size + 1) = some (excO 51 h.objs.size none) := by heap_get
  have hn : h.get? (h.objs.size + 1) = none := Heap.get?_none_of_le (Nat.le_succ _)
  have keep : ∀ b o, h.get? b = some o → ((h.push (tupO [cv, v])).push (excO 51 h.objs.size none)).get? b = some o := fun b o e => Heap.get?_push_of_some _ (Heap.get?_push_of_some _ e)
  refine io_init51 (t := h.objs.size) S (below_under (below_push (below_push B _) _) (make_envs _ _)) (room_make Rm) (fun p hp => ?_) fun h' tk t' d' tx ty x1 x2 x3 x4 => ?_
  · rw [List.mem_singleton.mp hp]
    refine ⟨hx, fresh_of_stays B.stays hn, fun q => ?_⟩
    obtain ⟨_, o, ho, _⟩ := B.frames.mem q
    rw [hn] at ho; cases ho
  · refine ⟨rfl, k h' tk _ t' d' tx ty (fun a o e _ => ?_) x2 x3 hn ?_ ?_⟩
    · have ne : a ∉ [h.objs.size + 1] := fun q => by rw [List.mem_singleton.mp q, hn] at e; cases e
      exact ⟨fun _ => x1.at (keep a o e) ne List.not_mem_nil, (x1 a o (keep a o e) ne).2⟩
    · cases q : h.get? d' with
      | none => rfl
      | some o => rw [keep d' o q] at x4; cases x4
    · intro q
      rw [← q, hx] at x4; cases x4
theorem mk70 {v : Value} (S : St w mean mg mb base) (B : Below A base outer s.heap) (Rm : Room A 4)
    (k : ∀ h' tk e t' d' tx ty tz, Step [] [] s.heap h' → h'.get? e = some (excO 70 t' (some d')) → h'.get? d' = some (dictOf [⟨PyData.keyHash w.params "text", .str "text" tx, v⟩, ⟨PyData.keyHash w.params "code", .str "code" ty, .int (-1) tz⟩] 2) →
      s.heap.get? e = none → s.heap.get? d' = none → e ≠ d' → R (.ok (.ret (.ref e))) { s with heap := h', toks := tk }) :
    codeAny (model prog w) A (.call (.ref 70) ⟨[v], []⟩) R s := by
  obtain ⟨h, g, d, t, os⟩ := s
  dsimp only at B k
  have X := S.X.keeps B.stays
  refine' exc_make X ?K ?b ?a ?n ?c ?t ?i ?f ?_
  (case K => k_is)
  (case b => rfl)
  (case a => rfl)
  (case n => rfl)
  (case c => k_is)
  (case t => k_is)
  (case i => k_is)
  (case f => k_is)
  have hx : ((h.push (tupO [v])).push (excO 70 h.objs.size none)).get? (h.objs.size + 1) = some (excO 70 h.objs.size none) := by heap_get
  have hn : h.get? (h.objs.size + 1) = none := Heap.get?_none_of_le (Nat.le_succ _)
  have keep : ∀ b o, h.get? b = some o → ((h.push (tupO [v])).push (excO 70 h.objs.size none)).get? b = some o := fun b o e => Heap.get?_push_of_some _ (Heap.get?_push_of_some _ e)
  refine end_init (t := h.objs.size) S (below_under (below_push (below_push B _) _) (make_envs _ _)) (room_make Rm) (fun p hp => ?_) fun h' tk t' d' tx ty tz x1 x2 x3 x4 => ?_
  · rw [List.mem_singleton.mp hp]
    refine ⟨hx, fresh_of_stays B.stays hn, fun q => ?_⟩
    obtain ⟨_, o, ho, _⟩ := B.frames.mem q
    rw [hn] at ho; cases ho
  · refine ⟨rfl, k h' tk _ t' d' tx ty tz (fun a o e _ => ?_) x2 x3 hn ?_ ?_⟩
    · have ne : a ∉ [h.objs.size + 1] := fun q => by rw [List.mem_singleton.mp q, hn] at e; cases e
      exact ⟨fun _ => x1.at (keep a o e) ne List.not_mem_nil, (x1 a o (keep a o e) ne).2⟩
    · cases q : h.get? d' with
      | none => rfl
      | some o => rw [keep d' o q] at x4; cases x4
    · intro q
      rw [← q, hx] at x4; cases x4
end
section
variable {M : Model} {A : Around} {E : Value → Shared → Prop} {env : Env}
variable {nm q : Str} {C N : Addr} {bs bm : List Value} {hdct : Bool} {sn : List Str} {sub : List Value} {ab : Bool} {col : Option Bool} {dd : Option Addr} {k0 k1 k2 k3 k5 : Option Value} {newId : String}
theorem raise_made {s : Shared} {x : Sem Value} {Q : Flow → Shared → Prop} (hbase : (Value.ref C :: bm).contains (.type "BaseException") = true) (hty : (Value.ref C :: bm).contains (.type "type") = false) (hh : A.handled = none)
    (h : wpAny M A x (fun v s₁ => ∃ e t d, v = .ref e ∧ s₁.heap.get? C = some (excClassObj nm q C N bs bm hdct sn sub ab col dd k0 k1 k2 k3 k5 newId) ∧
      s₁.heap.get? e = some (excO C t d) ∧ E (.ref e) s₁) E s) :
    wpAny M A (raiseStmt env (some x) none) Q E s := by
  unfold raiseStmt
  refine wpAny_bind (wpAny_mono h (fun v s₁ h₁ => ?_) fun _ _ x => x)
  obtain ⟨e, t, d, rfl, hC, he, hE⟩ := h₁
  obtain ⟨hp, g, dr, tk, os⟩ := s₁
  repeat (first | with_reducible refine wpAny_loadPart_at he ?_ | with_reducible refine wpAny_loadPart_at hC ?_ | (with_reducible refine wpAny_isSubtype_exc hC ?_; first | rw [hbase] | rw [hty]) | wp_step)
  exact wpAny_raiseNew_none hh hE
end
end
section
open PySem PySem.W PyProof.Rows PySem.Spec PySem.Calls
structure Tr (h : Heap) (e C d T : Addr) (fl : Value) : Prop where
  ex : ∃ vs sl, h.get? e = some ⟨.ref C, some d, .fields vs, sl⟩ ∧ vs[1]? = some (.ref T)
  tr : ∃ oT ts, h.get? T = some oT ∧ oT.data = .fields ts ∧ ts[3]? = some fl
  ne : T ≠ e
section
variable {M : Model} {A : Around} {E : Value → Shared → Prop} {s : Shared} {base : Heap} {env : Env} {outer : List Env} {L e C d : Addr}
theorem entry_new {vs : Array Value} {sl : Array (Option Value)} {head : Value} {hadNext : Bool} {Q : Unit → Shared → Prop}
    (hfr : A.frames = some (env :: outer)) (hl : s.heap.FunFrames base (env :: outer)) (hf : env.frame = some L)
    (he : s.heap.get? e = some ⟨.ref C, some d, .fields vs, sl⟩) (hsz : 1 < vs.size)
    (h : ∀ h' T, Step (fs (env :: outer)) [e] s.heap h' → Tr h' e C d T (rawInt L) → s.heap.get? T = none → Q () { s with heap := h' }) :
    wpAny M A (do let a ← frameOf env; let pl ← entryPlaceOf L hadNext; let b ← EntryCells.newEntry head a .none (rawInt L) .none pl; setField (.ref e) 1 b) Q E s := by
  have hene : e ∉ fs (env :: outer) := fun hm => by
    obtain ⟨_, o, ho, hnf⟩ := hl.mem hm
    rw [he] at ho; cases ho; exact hnf vs rfl
  refine wpAny_bind (wpAny_frameOf_fun hfr hl hf fun h₁ hs₁ => ?_)
  refine wpAny_bind (wpAny_entryPlaceOf fun pl hpl => ?_)
  unfold EntryCells.newEntry newFields
  refine wpAny_bind (wpAny_newObj_type ?_ (hpl.sizeOk5 _ _ _ _ _))
  have he₁ : h₁.get? e = some ⟨.ref C, some d, .fields vs, sl⟩ := (hs₁.2.1 e hene).trans he
  have he₂ := Heap.get?_push_of_some (h := h₁) { cls := .type "traceback", dict := none, data := .fields ([head, .ref L, .none, rawInt L, .none] ++ (if pl.isEmpty then List.replicate 6 Value.none else pl)).toArray } he₁
  refine wpAny_setField he₂ rfl hsz ?_
  have hTe : h₁.objs.size ≠ e := Nat.ne_of_gt (Heap.lt_size he₁)
  have he₃ := Heap.get?_update_self (Obj.mapFields (·.setIfInBounds 1 (Value.ref h₁.objs.size))) he₂ rfl
  have hT₃ := (Heap.get?_update_other (h₁.push { cls := .type "traceback", dict := none, data := .fields ([head, .ref L, .none, rawInt L, .none] ++ (if pl.isEmpty then List.replicate 6 Value.none else pl)).toArray })
    (Obj.mapFields (·.setIfInBounds 1 (Value.ref h₁.objs.size))) (Ne.symm hTe)).trans (Heap.get?_push_size h₁ rfl)
  refine h _ h₁.objs.size (fun a o ha hb => ?_) ⟨⟨_, _, he₃, by simp [hsz]⟩, ⟨_, _, hT₃, rfl, by first | (simp; done) | (rcases hpl with rfl | ⟨_, _, _, _, _, _, _, rfl⟩ <;> simp)⟩, hTe⟩ ?_
  · have hae : a ≠ e := fun q => hb (List.mem_singleton.mpr q)
    have up : ∀ o', h₁.get? a = some o' → ((h₁.push { cls := .type "traceback", dict := none, data := .fields ([head, .ref L, .none, rawInt L, .none] ++ (if pl.isEmpty then List.replicate 6 Value.none else pl)).toArray }).update e (Obj.mapFields (·.setIfInBounds 1 (Value.ref h₁.objs.size)))).get? a = some o' := fun o' q => by
      rw [Heap.get?_update_other _ _ (Ne.symm hae)]
      exact Heap.get?_push_of_some _ q
    refine ⟨fun hn => up o ((hs₁.2.1 a hn).trans ha), ?_⟩
    obtain ⟨sl', hs⟩ := hs₁.2.2 a o ha
    exact ⟨sl', up _ hs⟩
  · exact Heap.get?_none_of_le (Nat.le_of_eq hs₁.1.symm)
theorem note_new {t : Addr} {Q : Unit → Shared → Prop}
    (hfr : A.frames = some (env :: outer)) (hl : s.heap.FunFrames base (env :: outer)) (hf : env.frame = some L) (he : s.heap.get? e = some (excO C t (some d)))
    (h : ∀ h' T, Step (fs (env :: outer)) [e] s.heap h' → Tr h' e C d T (rawInt L) → s.heap.get? T = none → Q () { s with heap := h' }) : wpAny M A (noteFrame (.ref e) env) Q E s := by
  unfold noteFrame
  simp only [hf]
  refine wpAny_bind (wpAny_field he rfl (x := .none) rfl ?_)
  rw [if_neg (by decide)]
  exact entry_new hfr hl hf he (by show 1 < 6; decide) h
theorem note_on {T₀ : Addr} {Q : Unit → Shared → Prop}
    (hfr : A.frames = some (env :: outer)) (hl : s.heap.FunFrames base (env :: outer)) (hf : env.frame = some L) (ht : Tr s.heap e C d T₀ .none)
    (h : ∀ h' T, Step (fs (env :: outer)) [e, T₀] s.heap h' → Tr h' e C d T (rawInt L) → s.heap.get? T = none → Q () { s with heap := h' }) : wpAny M A (noteFrame (.ref e) env) Q E s := by
  obtain ⟨⟨vs, sl, he, h1⟩, ⟨oT, ts, hT, hd, h3⟩, hne⟩ := ht
  have hsz : 1 < vs.size := (Array.getElem?_eq_some_iff.mp h1).1
  have hTf : T₀ ∉ fs (env :: outer) := fun hm => by
    obtain ⟨_, o, ho, hnf⟩ := hl.mem hm
    rw [hT] at ho; cases ho; exact hnf ts hd
  unfold noteFrame
  simp only [hf]
  refine wpAny_bind (wpAny_field he rfl h1 ?_)
  rw [if_pos (show (Value.ref T₀ != Value.none) = true from by simp)]
  refine wpAny_bind (wpAny_field hT hd h3 ?_)
  rw [if_neg (show ¬ ((Value.none == rawInt L) = true) from by simp [rawInt])]
  refine wpAny_bind (wpAny_setField hT hd (Array.getElem?_eq_some_iff.mp h3).1 ?_)
  have other : ∀ b, b ≠ T₀ → (s.heap.update T₀ (Obj.mapFields (·.setIfInBounds 3 Value.none))).get? b = s.heap.get? b := fun b hb => Heap.get?_update_other _ _ (Ne.symm hb)
  have st : Step [] [T₀] s.heap (s.heap.update T₀ (Obj.mapFields (·.setIfInBounds 3 Value.none))) := fun a o ha hb => by
    have : a ≠ T₀ := fun q => hb (List.mem_singleton.mpr q)
    exact ⟨fun _ => (other a this).trans ha, o.slots, (other a this).trans ha⟩
  refine entry_new (s := { s with heap := s.heap.update T₀ (Obj.mapFields (·.setIfInBounds 3 Value.none)) }) hfr (frames_step st hl fun f hf' hm => hTf (by rw [← List.mem_singleton.mp hm]; exact hf')) hf ((other e (Ne.symm hne)).trans he) hsz fun h' T x1 x2 x3 => ?_
  refine h h' T ((st.mono (fun _ q => nomatch q) (fun a q => List.mem_cons_of_mem _ q)).trans (x1.mono (fun _ q => q) (fun a q => by rw [List.mem_singleton.mp q]; exact .head _))) x2 ?_
  by_cases q : T = T₀
  · subst q
    obtain ⟨o, ho⟩ : ∃ o, (s.heap.update T (Obj.mapFields (·.setIfInBounds 3 Value.none))).get? T = some o := ⟨_, Heap.get?_update_self _ hT (Obj.isFreed_of_fields (Obj.data_mapFields hd _))⟩
    rw [ho] at x3; cases x3
  · exact (other T q).symm.trans x3
theorem unflag {T : Addr} {fl : Value} {Q : Unit → Shared → Prop} (ht : Tr s.heap e C d T fl)
    (h : ∀ h', Step [] [T] s.heap h' → Tr h' e C d T .none → Q () { s with heap := h' }) : wpAny M A (setFlight (.ref e) none) Q E s := by
  obtain ⟨⟨vs, sl, he, h1⟩, ⟨oT, ts, hT, hd, h3⟩, hne⟩ := ht
  have hsz3 : 3 < ts.size := (Array.getElem?_eq_some_iff.mp h3).1
  have other : ∀ b, b ≠ T → (s.heap.update T (Obj.mapFields (·.setIfInBounds 3 ((none : Option Addr).elim Value.none fun f => rawInt f)))).get? b = s.heap.get? b :=
    fun b hb => Heap.get?_update_other _ _ (Ne.symm hb)
  unfold setFlight
  refine wpAny_bind (wpAny_field he rfl h1 ?_)
  rw [if_pos (show (Value.ref T != Value.none) = true from by simp)]
  refine wpAny_setField hT hd hsz3 (h _ (fun a o ha hb => ?_) ⟨⟨vs, sl, (other e (Ne.symm hne)).trans he, h1⟩, ⟨_, _, Heap.get?_update_self _ hT (Obj.isFreed_of_fields (Obj.data_mapFields hd _)), Obj.data_mapFields hd _, by simp [hsz3]⟩, hne⟩)
  have : a ≠ T := fun q => hb (List.mem_singleton.mpr q)
  exact ⟨fun _ => (other a this).trans ha, o.slots, (other a this).trans ha⟩
theorem leave_first {t : Addr} {Q : Unit → Shared → Prop}
    (hfr : A.frames = some (env :: outer)) (hl : s.heap.FunFrames base (env :: outer)) (hf : env.frame = some L) (he : s.heap.get? e = some (excO C t (some d)))
    (h : ∀ h' T, Step (fs (env :: outer)) [e] s.heap h' → Tr h' e C d T .none → s.heap.get? T = none → Q () { s with heap := h' }) : wpAny M A (leaving env (.ref e)) Q E s := by
  unfold leaving
  refine wpAny_bind (note_new hfr hl hf he fun h₁ T x1 x2 x3 => unflag x2 fun h₂ y1 y2 => h h₂ T ?_ y2 x3)
  intro a o ha hb
  obtain ⟨z1, sl, z2⟩ := x1 a o ha hb
  have ne : a ∉ [T] := fun q => by rw [List.mem_singleton.mp q, x3] at ha; cases ha
  exact ⟨fun hn => y1.at (z1 hn) ne List.not_mem_nil, sl, y1.at z2 ne List.not_mem_nil⟩
theorem leave_next {T₀ : Addr} {Q : Unit → Shared → Prop}
    (hfr : A.frames = some (env :: outer)) (hl : s.heap.FunFrames base (env :: outer)) (hf : env.frame = some L) (ht : Tr s.heap e C d T₀ .none)
    (h : ∀ h' T, Step (fs (env :: outer)) [e, T₀] s.heap h' → Tr h' e C d T .none → s.heap.get? T = none → Q () { s with heap := h' }) : wpAny M A (leaving env (.ref e)) Q E s := by
  unfold leaving
  refine wpAny_bind (note_on hfr hl hf ht fun h₁ T x1 x2 x3 => unflag x2 fun h₂ y1 y2 => h h₂ T ?_ y2 x3)
  intro a o ha hb
  obtain ⟨z1, sl, z2⟩ := x1 a o ha hb
  have ne : a ∉ [T] := fun q => by rw [List.mem_singleton.mp q, x3] at ha; cases ha
  exact ⟨fun hn => y1.at (z1 hn) ne List.not_mem_nil, sl, y1.at z2 ne List.not_mem_nil⟩
end
structure Flew (w : World) (h h' : Heap) (e C : Addr) (c : Int) : Prop where
  out : ∃ d T tx ty tz v, Tr h' e C d T .none ∧ h'.get? d = some (dictOf [⟨PyData.keyHash w.params "text", .str "text" tx, v⟩, ⟨PyData.keyHash w.params "code", .str "code" ty, .int c tz⟩] 2) ∧
    h.get? e = none ∧ h.get? d = none ∧ h.get? T = none ∧ e ≠ d ∧ T ≠ d
theorem Step.cut {fl bs cs : List Addr} {h h' h'' : Heap} (x : Step fl bs h h') (y : Step fl cs h' h'') (hc : ∀ c ∈ cs, h.get? c = none) : Step fl bs h h'' := fun a o ha hb => by
  obtain ⟨z1, sl, z2⟩ := x a o ha hb
  have ne : a ∉ cs := fun q => by rw [hc a q] at ha; cases ha
  refine ⟨fun hn => y.at (z1 hn) ne hn, ?_⟩
  obtain ⟨_, sl', z3⟩ := y a _ z2 ne
  exact ⟨sl', z3⟩
section
variable {M : Model} {w : World} {A A₀ : Around} {E : Value → Shared → Prop} {s : Shared} {base g g₀ h₀ h h' : Heap} {outer : List Env} {L a e C d t : Addr} {m : Str → Option Value} {name : Str} {scope : Scope} {cd : Value} {news : List (Addr × Obj)} {bs : List (Addr × Obj)} {cb : List Addr} {c : Int}
theorem leave_first_K {hpS : Heap} {gnS : Array GenState} {drS : Drawn} {tkS : Nat} {osS : OsState} {tx ty tz : Tok} {v : Value} {Q : Unit → Shared → Prop} (B : Below A base outer g) (F : Fr g L hpS m) (N : News g L hpS news) (he : (e, excO C t (some d)) ∈ news)
    (hd : (d, dictOf [⟨PyData.keyHash w.params "text", .str "text" tx, v⟩, ⟨PyData.keyHash w.params "code", .str "code" ty, .int c tz⟩] 2) ∈ news) (hed : e ≠ d) (T0 : KtsTurn (fs outer) g₀ g)
    (hold : Old h₀ g₀ (bs.map (·.1))) (hbs : ∀ q ∈ bs, (∃ o, (q.1, o) ∈ news) ∧ q.1 ≠ e ∧ q.1 ≠ d)
    (k : ∀ h', Step (fs outer) (bs.map (·.1)) h₀ h' → (∀ p ∈ news, p.1 ≠ e → h'.get? p.1 = some p.2) → Flew w h₀ h' e C c → Q () ⟨h', gnS, drS, tkS, osS⟩) (hk : scope.kind = .function := by rfl) :
    wpAny M (A.deeper (envOf name scope L a cd)) (leaving (envOf name scope L a cd) (.ref e)) Q E ⟨hpS, gnS, drS, tkS, osS⟩ := by
  have B' := B.push (name := name) (scope := scope) (a := a) (cd := cd) F hk
  refine leave_first B'.stack B'.frames rfl (N.get he) fun h' T x1 x2 x3 => ?_
  have x1' : Step (L :: fs outer) [e] hpS h' := x1
  obtain ⟨g', T', F', B'', st⟩ := back x1' B F (fun b hb => by rw [List.mem_singleton.mp hb]; exact ⟨(N _ he).2.2, (N _ he).2.1⟩)
  have keep : ∀ p ∈ news, p.1 ≠ e → h'.get? p.1 = some p.2 := fun p hp hn => x1'.at (N p hp).1 (fun q => hn (List.mem_singleton.mp q)) (fun q => by
    rcases List.mem_cons.mp q with q | q
    · exact (N p hp).2.1 q
    · obtain ⟨_, o, ho, _⟩ := B.frames.mem q
      rw [(N p hp).2.2] at ho; cases ho)
  have fr : ∀ x, hpS.get? x = none → h₀.get? x = none := fun x hx => by
    cases q : h₀.get? x with
    | none => rfl
    | some o =>
      by_cases hm : x ∈ bs.map (·.1)
      · obtain ⟨y, hy, hy'⟩ := List.mem_map.mp hm
        obtain ⟨⟨o', ho'⟩, _⟩ := hbs y hy
        have z := (N _ ho').1
        rw [show y.1 = x from hy', hx] at z; cases z
      · obtain ⟨sl, hs⟩ := T0.up (hold x o q hm)
        rw [F.keep x _ hs] at hx; cases hx
  refine k h' (end1 hold (T0.trans T') F') keep ⟨d, T, tx, ty, tz, v, x2, keep _ hd (Ne.symm hed), ?_, ?_, fr T x3, hed, fun q => ?_⟩
  · exact fresh_in1 hold T0 N he fun q hq => (hbs q hq).2.1
  · exact fresh_in1 hold T0 N hd fun q hq => (hbs q hq).2.2
  · rw [q, (N _ hd).1] at x3; cases x3
theorem leave_next_K {hpS : Heap} {gnS : Array GenState} {drS : Drawn} {tkS : Nat} {osS : OsState} {s₁ : Heap} {Q : Unit → Shared → Prop} (B : Below A base outer g) (F : Fr g L s₁ m) (N : News g L s₁ news) (fl : Flew w s₁ hpS e C c) (x : Step (L :: fs outer) [] s₁ hpS) (T0 : KtsTurn (fs outer) g₀ g)
    (hold : Old h₀ g₀ (bs.map (·.1))) (hbs : ∀ q ∈ bs, ∃ o, (q.1, o) ∈ news)
    (k : ∀ h', Step (fs outer) (bs.map (·.1)) h₀ h' → (∀ p ∈ news, h'.get? p.1 = some p.2) → Flew w h₀ h' e C c → Q () ⟨h', gnS, drS, tkS, osS⟩) (hk : scope.kind = .function := by rfl) :
    wpAny M (A.deeper (envOf name scope L a cd)) (leaving (envOf name scope L a cd) (.ref e)) Q E ⟨hpS, gnS, drS, tkS, osS⟩ := by
  obtain ⟨d, T₀, tx, ty, tz, v, tr, hd, fe, fd, fT, ed, Td⟩ := fl
  have B₁ := B.push (name := name) (scope := scope) (a := a) (cd := cd) F hk
  have fr : hpS.FunFrames base (envOf name scope L a cd :: outer) := frames_step (fl := L :: fs outer) x B₁.frames fun f _ => List.not_mem_nil
  refine leave_next B₁.stack fr rfl tr fun h' T x1 x2 x3 => ?_
  have x1' : Step (L :: fs outer) [e, T₀] hpS h' := x1
  have x2' : Step (L :: fs outer) [] s₁ h' := x.cut x1' fun q hq => by
    rcases List.mem_cons.mp hq with rfl | hq
    · exact fe
    · rw [List.mem_singleton.mp hq]; exact fT
  obtain ⟨g', T', F', B'', st⟩ := back x2' B F (fun b hb => nomatch hb)
  have nfr : ∀ p ∈ news, p.1 ∉ L :: fs outer := fun p hp q => by
    rcases List.mem_cons.mp q with q | q
    · exact (N p hp).2.1 q
    · obtain ⟨_, o, ho, _⟩ := B.frames.mem q
      rw [(N p hp).2.2] at ho; cases ho
  have up : ∀ x, s₁.get? x = none → h₀.get? x = none := fun x hx => by
    cases q : h₀.get? x with
    | none => rfl
    | some o =>
      by_cases hm : x ∈ bs.map (·.1)
      · obtain ⟨y, hy, hy'⟩ := List.mem_map.mp hm
        obtain ⟨o', ho'⟩ := hbs y hy
        have z := (N _ ho').1
        rw [show y.1 = x from hy', hx] at z; cases z
      · obtain ⟨sl, hs⟩ := T0.up (hold x o q hm)
        rw [F.keep x _ hs] at hx; cases hx
  have dnf : d ∉ L :: fs outer := fun q => by
    rcases List.mem_cons.mp q with q | q
    · obtain ⟨oL, _, _, hL, _⟩ := F.ns
      rw [← q, fd] at hL; cases hL
    · obtain ⟨_, o, ho, _⟩ := B.frames.mem q
      rw [F.keep d o ho] at fd; cases fd
  have T₁ : s₁.get? T = none := by
    cases q : s₁.get? T with
    | none => rfl
    | some o =>
      obtain ⟨_, sl, z⟩ := x T o q List.not_mem_nil
      rw [x3] at z; cases z
  have hd' := x1'.at hd (fun q => by
    rcases List.mem_cons.mp q with q | q
    · exact ed q.symm
    · exact Td (List.mem_singleton.mp q).symm) dnf
  refine k h' (end1 hold (T0.trans T') F') (fun p hp => x2'.at (N p hp).1 List.not_mem_nil (nfr p hp)) ⟨d, T, tx, ty, tz, v, x2, hd', up e fe, up d fd, up T T₁, ed, fun q => ?_⟩
  rw [q, hd] at x3; cases x3
end
end
section
open PySem PySem.W PyProof.Rows PySem.Spec PySem.Calls
structure UI where
  (k1 k2 k3 k4 : Tok) (num bl : Value)
noncomputable abbrev unitD (w : World) (u : UI) (f : Addr) (p : Value) : Obj := dictOf [⟨PyData.keyHash w.params "number", .str "number" u.k1, u.num⟩, ⟨PyData.keyHash w.params "file", .str "file" u.k2, .ref f⟩,
  ⟨PyData.keyHash w.params "blank", .str "blank" u.k3, u.bl⟩, ⟨PyData.keyHash w.params "place", .str "place" u.k4, p⟩] 4
structure FI where
  (k1 k2 k3 k4 k5 k6 nt at_ ft lt : Tok) (nm fm : Str) (len : Int)
noncomputable abbrev fileD (w : World) (i : FI) (acc : Str) (rc nb : Addr) : Obj := dictOf [⟨PyData.keyHash w.params "name", .str "name" i.k1, .str i.nm i.nt⟩, ⟨PyData.keyHash w.params "access", .str "access" i.k2, .str acc i.at_⟩,
  ⟨PyData.keyHash w.params "form", .str "form" i.k3, .str i.fm i.ft⟩, ⟨PyData.keyHash w.params "length", .str "length" i.k4, .int i.len i.lt⟩,
  ⟨PyData.keyHash w.params "records", .str "records" i.k5, .ref rc⟩, ⟨PyData.keyHash w.params "numbered", .str "numbered" i.k6, .ref nb⟩] 6
section
variable {prog : Program} {w : World} {A : Around} {s : Shared} {base g : Heap} {outer : List Env} {mean : ExcName → Option Value} {mg mb : Str → Option Value}
  {L a : Addr} {m : Str → Option Value} {news : List (Addr × Obj)} {cn : Str} {cs : Scope} {ccd : Value} {E : Value → Shared → Prop}
theorem mk51_K {hpS : Heap} {gnS : Array GenState} {drS : Drawn} {tkS : Nat} {osS : OsState} {v cv : Value} {Q : Value → Shared → Prop} (S : St w mean mg mb base) (B : Below A base outer g) (F : Fr g L hpS m) (N : News g L hpS news) (Rm : Room A 4)
    (k : ∀ h' tk e t' d' tx ty, Fr g L h' m → News g L h' ((e, excO 51 t' (some d')) :: (d', dictOf [⟨PyData.keyHash w.params "text", .str "text" tx, v⟩, ⟨PyData.keyHash w.params "code", .str "code" ty, cv⟩] 2) :: news) →
      AllNe e news → AllNe d' news → e ≠ d' → Q (.ref e) ⟨h', gnS, drS, tk, osS⟩)
    (hk : cs.kind = .function := by rfl) : wpAny (model prog w) (A.deeper (envOf cn cs L a ccd)) (call (.ref 51) [cv, v]) Q E ⟨hpS, gnS, drS, tkS, osS⟩ := by
  refine wpAny_call (mk51 S (B.push F hk) (Rm.deeper (by decide)) fun h' tk e t' d' tx ty x1 x2 x3 x4 x5 x6 => ?_)
  obtain ⟨F', N'⟩ := use00 F N x1
  exact k h' tk e t' d' tx ty F' (useNew F x4 x2 (useNew F x5 x3 N' (new_none F x5)) (new_none F x4)) (new_ne N x4) (new_ne N x5) x6
theorem mk70_K {hpS : Heap} {gnS : Array GenState} {drS : Drawn} {tkS : Nat} {osS : OsState} {v : Value} {Q : Value → Shared → Prop} (S : St w mean mg mb base) (B : Below A base outer g) (F : Fr g L hpS m) (N : News g L hpS news) (Rm : Room A 5)
    (k : ∀ h' tk e t' d' tx ty tz, Fr g L h' m → News g L h' ((e, excO 70 t' (some d')) :: (d', dictOf [⟨PyData.keyHash w.params "text", .str "text" tx, v⟩, ⟨PyData.keyHash w.params "code", .str "code" ty, .int (-1) tz⟩] 2) :: news) →
      AllNe e news → AllNe d' news → e ≠ d' → Q (.ref e) ⟨h', gnS, drS, tk, osS⟩)
    (hk : cs.kind = .function := by rfl) : wpAny (model prog w) (A.deeper (envOf cn cs L a ccd)) (call (.ref 70) [v]) Q E ⟨hpS, gnS, drS, tkS, osS⟩ := by
  refine wpAny_call (mk70 S (B.push F hk) (Rm.deeper (by decide)) fun h' tk e t' d' tx ty tz x1 x2 x3 x4 x5 x6 => ?_)
  obtain ⟨F', N'⟩ := use00 F N x1
  exact k h' tk e t' d' tx ty tz F' (useNew F x4 x2 (useNew F x5 x3 N' (new_none F x5)) (new_none F x4)) (new_ne N x4) (new_ne N x5) x6
end
theorem Room.hand {A : Around} {n : Nat} {env : Env} (R : Room A n) : (A.deeper env).handled = none := R.han
noncomputable def RaiseMade (K : Frag) (C : Addr) (E : Value → Shared → Prop) (v : Value) (s₁ : Shared) : Prop :=
  ∃ e t d, v = .ref e ∧ K.In s₁.heap ∧ s₁.heap.get? e = some (excO C t d) ∧ E (.ref e) s₁
theorem raiseMade_ {K : Frag} {C e t : Addr} {d : Option Addr} {E : Value → Shared → Prop} {s₁ : Shared} (X : K.In s₁.heap) (he : s₁.heap.get? e = some (excO C t d)) (h : E (.ref e) s₁) : RaiseMade K C E (.ref e) s₁ := ⟨e, t, d, rfl, X, he, h⟩
section
variable {prog : Program} {w : World} {A : Around} {E : Value → Shared → Prop} {s : Shared} {env : Env} {K : Frag}
variable {nm q : Str} {C N : Addr} {bs bm : List Value} {hdct : Bool} {sn : List Str} {sub : List Value} {ab : Bool} {col : Option Bool} {dd : Option Addr} {k0 k1 k2 k3 k5 : Option Value} {newId : String}
theorem raise_K {h₀ : Heap} {ex : Expr} {pos : Pos} {Q : Flow → Shared → Prop} (_X : K.In h₀) (hK : K.lookup C = some (excClassObj nm q C N bs bm hdct sn sub ab col dd k0 k1 k2 k3 k5 newId))
    (hbase : (Value.ref C :: bm).contains (.type "BaseException") = true) (hty : (Value.ref C :: bm).contains (.type "type") = false) (hh : A.handled = none)
    (h : wpAny (model prog w) A (eval ex env) (RaiseMade K C E) E s) : wpAny (model prog w) A (exec (.Raise (some ex) none pos) env) Q E s := by
  rw [arm_exec_Raise]
  refine wpAny_bind (wpAny_standAt (raise_made (C := C) (nm := nm) (q := q) (N := N) (bs := bs) (bm := bm) (hdct := hdct) (sn := sn) (sub := sub) (ab := ab) (col := col) (dd := dd) (k0 := k0) (k1 := k1) (k2 := k2) (k3 := k3) (k5 := k5) (newId := newId) hbase hty hh ?_))
  refine wpAny_bind (wpAny_mono h (fun v s₁ h₁ => wpAny_bind (wpAny_standAt (wpAny_pure ?_))) fun _ _ x => x)
  obtain ⟨e, t, d, rfl, X, he, hE⟩ := h₁
  exact ⟨e, t, d, rfl, X _ _ hK, he, hE⟩
end
theorem line_M8_1 : True := by
  k_with_none
  w_top off
  k_with "my:k_mem" => (first | exact m0_ | exact m1_ | exact m2_ | exact m3_ | exact m4_ | exact m5_ | exact m6_ | exact m7_ | (refine m8s_ ?_; k_mem))
  k_with "my:k_ne" => (((try dsimp only); first
  | exact AllNe.mem (by assumption) (_, _) (by k_mem)
  | exact Ne.symm (AllNe.mem (by assumption) (_, _) (by k_mem))
  | assumption
  | exact Ne.symm (by assumption)))
  k_with "my_enter" => ((
  (case ho => k_is)
  (case hcd => k_is)
  (case hbind => exact BindsTo.of_eq rfl)
  (case hloc => exact locs rfl)
  (case hco => exact rfl)
  (case hgen => exact rfl)
  (case hk => exact rfl)
  (case hcell => decide)))
  k_with "my_bs" => (first | exact List.forall_mem_nil _ | (refine List.forall_mem_cons.mpr ⟨⟨⟨_, by k_mem⟩, ⟨by k_ne, by k_ne⟩⟩, ?_⟩; walk_at "my_bs"))
  k_with "my_ro" => (first | exact List.forall_mem_nil _ | (refine List.forall_mem_cons.mpr ⟨?aZ, ?bZ⟩; (case aZ => first | exact fun _ => News.get (by k_asm) (by k_mem) | exact fun hn => absurd (by simp) hn); (case bZ => walk_at "my_ro")))
  k_with "exec Raise some none" => ((k_here; (with_reducible show wpAny _ _ (exec (Stmt.Raise (some (Expr.Call (Expr.Name (PySem.Str.ofString "IoFault") _) _ _ _)) none _) _) _ _ _); k_dflt (refine' raise_K (C := 51) ?XZ ?KZ ?bZ ?tZ ?hZ ?_; (case XZ => k_asm); (case KZ => k_is); (case bZ => rfl); (case tZ => rfl); (case hZ => exact Room.hand (by assumption)); k_whole)))
  k_with "exec Raise some none" => ((k_here; (with_reducible show wpAny _ _ (exec (Stmt.Raise (some (Expr.Call (Expr.Name (PySem.Str.ofString "EndFault") _) _ _ _)) none _) _) _ _ _); k_dflt (refine' raise_K (C := 70) ?XZ ?KZ ?bZ ?tZ ?hZ ?_; (case XZ => k_asm); (case KZ => k_is); (case bZ => rfl); (case tZ => rfl); (case hZ => exact Room.hand (by assumption)); k_whole)))
  k_with "call ref" => ((k_here; (with_reducible show wpAny _ _ (PySem.call (Value.ref 51) [_, _]) _ _ _); k_dflt (refine' mk51_K ?SZ ?BZ ?FZ ?NZ ?RZ ?_; (case SZ => assumption); (case BZ => assumption); (case FZ => k_asm); (case NZ => k_asm); (case RZ => exact Room.less (by assumption) (by decide)); k_whole); intro h' tk' e' t' d' tx' ty' F' N' l1 l2 l3; (try k_sweep)))
  k_with "call ref" => ((k_here; (with_reducible show wpAny _ _ (PySem.call (Value.ref 70) [_]) _ _ _); k_dflt (refine' mk70_K ?SZ ?BZ ?FZ ?NZ ?RZ ?_; (case SZ => assumption); (case BZ => assumption); (case FZ => k_asm); (case NZ => k_asm); (case RZ => exact Room.less (by assumption) (by decide)); k_whole); intro h' tk' e' t' d' tx' ty' tz' F' N' l1 l2 l3; (try k_sweep)))
  k_with "RaiseMade" => ((k_dflt (refine' raiseMade_ ?XZ ?hZ ?_; (case XZ => k_in); (case hZ => exact News.get (by k_asm) (by k_mem)))))
  trivial
section
variable {prog : Program} {w : World} {A : Around} {s : Shared} {base : Heap} {outer : List Env} {mean : ExcName → Option Value} {mg mb : Str → Option Value}
  {R : Result → Shared → Prop} {u du f df rc nb : Addr} {ui : UI} {fi : FI} {p : Value}
theorem need_DD {t : Tok} (S : St w mean mg mb base) (B : Below A base outer s.heap) (Rm : Room A 1) (H : Has base outer s.heap [(u, instObj 142 du), (du, unitD w ui f p), (f, instObj 100 df), (df, fileD w fi "DIRECT" rc nb)])
    (k : ∀ h' tk, Step [] [] s.heap h' → R (.ok (.ret .none)) { s with heap := h', toks := tk }) :
    codeAny (model prog w) A (.call (.ref 223) ⟨[.ref u, .str "DIRECT" t], []⟩) R s := by
  refine' enter [(u, instObj 142 du), (du, unitD w ui f p), (f, instObj 100 df), (df, fileD w fi "DIRECT" rc nb)] S B Rm.d H ?ho ?hcd ?hbind ?hloc ?h ?hco ?hgen ?hk ?hcell
  walk_at "my_enter"
  intro g L' h₁ F N B' X T hold hg hL
  have T0 : KtsTurn (fs outer) g g := KtsTurn.refl
  dsimp only
  try k_fold
  k_steps
  refine k _ _ (step_cut (end0 hold (by k_asm)) H ?_)
  walk_at "my_ro"
theorem need_SS {t : Tok} (S : St w mean mg mb base) (B : Below A base outer s.heap) (Rm : Room A 1) (H : Has base outer s.heap [(u, instObj 142 du), (du, unitD w ui f p), (f, instObj 100 df), (df, fileD w fi "SEQUENTIAL" rc nb)])
    (k : ∀ h' tk, Step [] [] s.heap h' → R (.ok (.ret .none)) { s with heap := h', toks := tk }) :
    codeAny (model prog w) A (.call (.ref 223) ⟨[.ref u, .str "SEQUENTIAL" t], []⟩) R s := by
  refine' enter [(u, instObj 142 du), (du, unitD w ui f p), (f, instObj 100 df), (df, fileD w fi "SEQUENTIAL" rc nb)] S B Rm.d H ?ho ?hcd ?hbind ?hloc ?h ?hco ?hgen ?hk ?hcell
  walk_at "my_enter"
  intro g L' h₁ F N B' X T hold hg hL
  have T0 : KtsTurn (fs outer) g g := KtsTurn.refl
  dsimp only
  try k_fold
  k_steps
  refine k _ _ (step_cut (end0 hold (by k_asm)) H ?_)
  walk_at "my_ro"
theorem need_DS {t : Tok} (S : St w mean mg mb base) (B : Below A base outer s.heap) (Rm : Room A 5) (H : Has base outer s.heap [(u, instObj 142 du), (du, unitD w ui f p), (f, instObj 100 df), (df, fileD w fi "DIRECT" rc nb)])
    (kx : ∀ h' tk e, Step (fs outer) [] s.heap h' → Flew w s.heap h' e 51 16 → R (.error (.ref e)) { s with heap := h', toks := tk }) :
    codeAny (model prog w) A (.call (.ref 223) ⟨[.ref u, .str "SEQUENTIAL" t], []⟩) R s := by
  refine' enter [(u, instObj 142 du), (du, unitD w ui f p), (f, instObj 100 df), (df, fileD w fi "DIRECT" rc nb)] S B Rm.d H ?ho ?hcd ?hbind ?hloc ?h ?hco ?hgen ?hk ?hcell
  walk_at "my_enter"
  intro g L' h₁ F N B' X T hold hg hL
  have T0 : KtsTurn (fs outer) g g := KtsTurn.refl
  dsimp only
  try k_fold
  k_steps
  refine leave_first_K B' (by k_asm) (by k_asm) (by k_mem) (by k_mem) (by k_ne) T0 hold ?_ fun h' x1 x2 x3 => kx h' _ _ (step_cut x1 H ?_) x3
  · walk_at "my_bs"
  · repeat' (first | exact List.forall_mem_nil _ | refine List.forall_mem_cons.mpr ⟨fun _ => x2 _ (by k_mem) (by k_ne), ?_⟩)
theorem need_SD {t : Tok} (S : St w mean mg mb base) (B : Below A base outer s.heap) (Rm : Room A 5) (H : Has base outer s.heap [(u, instObj 142 du), (du, unitD w ui f p), (f, instObj 100 df), (df, fileD w fi "SEQUENTIAL" rc nb)])
    (kx : ∀ h' tk e, Step (fs outer) [] s.heap h' → Flew w s.heap h' e 51 16 → R (.error (.ref e)) { s with heap := h', toks := tk }) :
    codeAny (model prog w) A (.call (.ref 223) ⟨[.ref u, .str "DIRECT" t], []⟩) R s := by
  refine' enter [(u, instObj 142 du), (du, unitD w ui f p), (f, instObj 100 df), (df, fileD w fi "SEQUENTIAL" rc nb)] S B Rm.d H ?ho ?hcd ?hbind ?hloc ?h ?hco ?hgen ?hk ?hcell
  walk_at "my_enter"
  intro g L' h₁ F N B' X T hold hg hL
  have T0 : KtsTurn (fs outer) g g := KtsTurn.refl
  dsimp only
  try k_fold
  k_steps
  refine leave_first_K B' (by k_asm) (by k_asm) (by k_mem) (by k_mem) (by k_ne) T0 hold ?_ fun h' x1 x2 x3 => kx h' _ _ (step_cut x1 H ?_) x3
  · walk_at "my_bs"
  · repeat' (first | exact List.forall_mem_nil _ | refine List.forall_mem_cons.mpr ⟨fun _ => x2 _ (by k_mem) (by k_ne), ?_⟩)
end
end
section
open PySem PySem.W PyProof.Rows PySem.Spec PySem.Calls
theorem line_M9_1 : True := by
  k_with_none
  w_top off
  k_with "my:k_mem" => (first | exact m0_ | exact m1_ | exact m2_ | exact m3_ | exact m4_ | exact m5_ | exact m6_ | exact m7_ | (refine m8s_ ?_; k_mem))
  k_with "my:k_ne" => (((try dsimp only); first
  | exact AllNe.mem (by assumption) (_, _) (by k_mem)
  | exact Ne.symm (AllNe.mem (by assumption) (_, _) (by k_mem))
  | assumption
  | exact Ne.symm (by assumption)))
  k_with "my_enter" => ((
  (case ho => k_is)
  (case hcd => k_is)
  (case hbind => exact BindsTo.of_eq rfl)
  (case hloc => exact locs rfl)
  (case hco => exact rfl)
  (case hgen => exact rfl)
  (case hk => exact rfl)
  (case hcell => decide)))
  k_with "my_dist" => (((simp only [Dist, AllNe, and_true]); (repeat' (refine And.intro ?_ ?_)); all_goals k_ne))
  k_with "my_bs" => (first | exact List.forall_mem_nil _ | (refine List.forall_mem_cons.mpr ⟨⟨⟨_, by k_mem⟩, ⟨by k_ne, by k_ne⟩⟩, ?_⟩; walk_at "my_bs"))
  k_with "my_bs0" => (first | exact List.forall_mem_nil _ | (refine List.forall_mem_cons.mpr ⟨⟨_, by k_mem⟩, ?_⟩; walk_at "my_bs0"))
  k_with "my_ro" => (first | exact List.forall_mem_nil _ | (refine List.forall_mem_cons.mpr ⟨?aZ, ?bZ⟩; (case aZ => first | exact fun _ => News.get (by k_asm) (by k_mem) | exact fun hn => absurd (by simp) hn); (case bZ => walk_at "my_ro")))
  k_with "exec Raise some none" => ((k_here; (with_reducible show wpAny _ _ (exec (Stmt.Raise (some (Expr.Call (Expr.Name (PySem.Str.ofString "IoFault") _) _ _ _)) none _) _) _ _ _); k_dflt (refine' raise_K (C := 51) ?XZ ?KZ ?bZ ?tZ ?hZ ?_; (case XZ => k_asm); (case KZ => k_is); (case bZ => rfl); (case tZ => rfl); (case hZ => first | exact rfl | exact Room.hand (by assumption)); k_whole)))
  k_with "exec Raise some none" => ((k_here; (with_reducible show wpAny _ _ (exec (Stmt.Raise (some (Expr.Call (Expr.Name (PySem.Str.ofString "EndFault") _) _ _ _)) none _) _) _ _ _); k_dflt (refine' raise_K (C := 70) ?XZ ?KZ ?bZ ?tZ ?hZ ?_; (case XZ => k_asm); (case KZ => k_is); (case bZ => rfl); (case tZ => rfl); (case hZ => first | exact rfl | exact Room.hand (by assumption)); k_whole)))
  k_with "call ref" => ((k_here; (with_reducible show wpAny _ _ (PySem.call (Value.ref 51) [_, _]) _ _ _); k_dflt (refine' mk51_K ?SZ ?BZ ?FZ ?NZ ?RZ ?_; (case SZ => assumption); (case BZ => assumption); (case FZ => k_asm); (case NZ => k_asm); (case RZ => exact Room.less (by assumption) (by decide)); k_whole); intro h' tk' e' t' d' tx' ty' F' N' l1 l2 l3; (try k_sweep)))
  k_with "call ref" => ((k_here; (with_reducible show wpAny _ _ (PySem.call (Value.ref 70) [_]) _ _ _); k_dflt (refine' mk70_K ?SZ ?BZ ?FZ ?NZ ?RZ ?_; (case SZ => assumption); (case BZ => assumption); (case FZ => k_asm); (case NZ => k_asm); (case RZ => exact Room.less (by assumption) (by decide)); k_whole); intro h' tk' e' t' d' tx' ty' tz' F' N' l1 l2 l3; (try k_sweep)))
  k_with "RaiseMade" => ((k_dflt (refine' raiseMade_ ?XZ ?hZ ?_; (case XZ => k_in); (case hZ => exact News.get (by k_asm) (by k_mem)))))
  trivial
section
variable {prog : Program} {w : World} {A : Around} {s : Shared} {base g : Heap} {outer : List Env} {mean : ExcName → Option Value} {mg mb : Str → Option Value}
  {L a : Addr} {m : Str → Option Value} {news : List (Addr × Obj)} {cn : Str} {cs : Scope} {ccd : Value} {Q E : Value → Shared → Prop} {u du f df rc nb : Addr} {ui : UI} {fi : FI} {p : Value}
theorem need_DD_K {hpS : Heap} {gnS : Array GenState} {drS : Drawn} {tkS : Nat} {osS : OsState} {t : Tok} (S : St w mean mg mb base) (B : Below A base outer g) (F : Fr g L hpS m) (N : News g L hpS news) (Rm : Room A 2)
    (h1 : (u, instObj 142 du) ∈ news) (h2 : (du, unitD w ui f p) ∈ news) (h3 : (f, instObj 100 df) ∈ news) (h4 : (df, fileD w fi "DIRECT" rc nb) ∈ news)
    (k : ∀ h' tk, Fr g L h' m → News g L h' news → Q .none ⟨h', gnS, drS, tk, osS⟩) (hk : cs.kind = .function := by rfl) :
    wpAny (model prog w) (A.deeper (envOf cn cs L a ccd)) (call (.ref 223) [.ref u, .str "DIRECT" t]) Q E ⟨hpS, gnS, drS, tkS, osS⟩ := by
  refine wpAny_call (need_DD (p := p) (f := f) (df := df) (rc := rc) (nb := nb) (ui := ui) (fi := fi) (du := du) S (B.push F hk) (Rm.deeper (by decide)) (has_of B N ?_) fun h' tk x1 => ?_)
  · simp only [List.forall_mem_cons, List.forall_mem_nil, and_true]
    exact ⟨h1, h2, h3, h4, fun _ hx => (nomatch hx)⟩
  · obtain ⟨F', N'⟩ := use00 F N x1
    exact k h' tk F' N'
theorem need_SS_K {hpS : Heap} {gnS : Array GenState} {drS : Drawn} {tkS : Nat} {osS : OsState} {t : Tok} (S : St w mean mg mb base) (B : Below A base outer g) (F : Fr g L hpS m) (N : News g L hpS news) (Rm : Room A 2)
    (h1 : (u, instObj 142 du) ∈ news) (h2 : (du, unitD w ui f p) ∈ news) (h3 : (f, instObj 100 df) ∈ news) (h4 : (df, fileD w fi "SEQUENTIAL" rc nb) ∈ news)
    (k : ∀ h' tk, Fr g L h' m → News g L h' news → Q .none ⟨h', gnS, drS, tk, osS⟩) (hk : cs.kind = .function := by rfl) :
    wpAny (model prog w) (A.deeper (envOf cn cs L a ccd)) (call (.ref 223) [.ref u, .str "SEQUENTIAL" t]) Q E ⟨hpS, gnS, drS, tkS, osS⟩ := by
  refine wpAny_call (need_SS (p := p) (f := f) (df := df) (rc := rc) (nb := nb) (ui := ui) (fi := fi) (du := du) S (B.push F hk) (Rm.deeper (by decide)) (has_of B N ?_) fun h' tk x1 => ?_)
  · simp only [List.forall_mem_cons, List.forall_mem_nil, and_true]
    exact ⟨h1, h2, h3, h4, fun _ hx => (nomatch hx)⟩
  · obtain ⟨F', N'⟩ := use00 F N x1
    exact k h' tk F' N'
theorem need_DS_K {hpS : Heap} {gnS : Array GenState} {drS : Drawn} {tkS : Nat} {osS : OsState} {t : Tok} (S : St w mean mg mb base) (B : Below A base outer g) (F : Fr g L hpS m) (N : News g L hpS news) (Rm : Room A 6)
    (h1 : (u, instObj 142 du) ∈ news) (h2 : (du, unitD w ui f p) ∈ news) (h3 : (f, instObj 100 df) ∈ news) (h4 : (df, fileD w fi "DIRECT" rc nb) ∈ news)
    (k : ∀ h' tk e, Step (L :: fs outer) [] hpS h' → Flew w hpS h' e 51 16 → E (.ref e) ⟨h', gnS, drS, tk, osS⟩) (hk : cs.kind = .function := by rfl) :
    wpAny (model prog w) (A.deeper (envOf cn cs L a ccd)) (call (.ref 223) [.ref u, .str "SEQUENTIAL" t]) Q E ⟨hpS, gnS, drS, tkS, osS⟩ := by
  refine wpAny_call (need_DS (p := p) (f := f) (df := df) (rc := rc) (nb := nb) (ui := ui) (fi := fi) (du := du) S (B.push F hk) (Rm.deeper (by decide)) (has_of B N ?_) fun h' tk e x1 x2 => ?_)
  · simp only [List.forall_mem_cons, List.forall_mem_nil, and_true]
    exact ⟨h1, h2, h3, h4, fun _ hx => (nomatch hx)⟩
  · exact k h' tk e x1 x2
theorem need_SD_K {hpS : Heap} {gnS : Array GenState} {drS : Drawn} {tkS : Nat} {osS : OsState} {t : Tok} (S : St w mean mg mb base) (B : Below A base outer g) (F : Fr g L hpS m) (N : News g L hpS news) (Rm : Room A 6)
    (h1 : (u, instObj 142 du) ∈ news) (h2 : (du, unitD w ui f p) ∈ news) (h3 : (f, instObj 100 df) ∈ news) (h4 : (df, fileD w fi "SEQUENTIAL" rc nb) ∈ news)
    (k : ∀ h' tk e, Step (L :: fs outer) [] hpS h' → Flew w hpS h' e 51 16 → E (.ref e) ⟨h', gnS, drS, tk, osS⟩) (hk : cs.kind = .function := by rfl) :
    wpAny (model prog w) (A.deeper (envOf cn cs L a ccd)) (call (.ref 223) [.ref u, .str "DIRECT" t]) Q E ⟨hpS, gnS, drS, tkS, osS⟩ := by
  refine wpAny_call (need_SD (p := p) (f := f) (df := df) (rc := rc) (nb := nb) (ui := ui) (fi := fi) (du := du) S (B.push F hk) (Rm.deeper (by decide)) (has_of B N ?_) fun h' tk e x1 x2 => ?_)
  · simp only [List.forall_mem_cons, List.forall_mem_nil, and_true]
    exact ⟨h1, h2, h3, h4, fun _ hx => (nomatch hx)⟩
  · exact k h' tk e x1 x2
end
section
variable {prog : Program} {w : World} {A : Around} {E : Value → Shared → Prop} {s : Shared} {h₀ : Heap} {L d : Addr} {m : Str → Option Value} {news : List (Addr × Obj)} {gg : Obj → List (Addr × Obj)} {o : Obj} {kvs : List (Int × Value)} {k : Int} {t : Tok}
theorem numInS {v : Value} {Q : Value → Shared → Prop} (N : News h₀ L s.heap news) (hm : (d, o) ∈ news) (hd : o.IsDictOf (intKind prog w) kvs) (lo : (d == sysModules) = false) (hv : valueAt kvs k = some v)
    (h : Q (.bool false) { s with toks := s.toks + 1 }) : wpAny (model prog w) A (compareOp .NotIn (.int k t) (.ref d)) Q E s :=
  wpAny_notIn_of (intKind_is prog w k t) lo (Heap.dictOf_iff.mpr ⟨o, (N _ hm).1, hd⟩).mapOf (by rw [hv]; exact h)
theorem numInN {Q : Value → Shared → Prop} (N : News h₀ L s.heap news) (hm : (d, o) ∈ news) (hd : o.IsDictOf (intKind prog w) kvs) (lo : (d == sysModules) = false) (hv : valueAt kvs k = none)
    (h : Q (.bool true) { s with toks := s.toks + 1 }) : wpAny (model prog w) A (compareOp .NotIn (.int k t) (.ref d)) Q E s :=
  wpAny_notIn_of (intKind_is prog w k t) lo (Heap.dictOf_iff.mpr ⟨o, (N _ hm).1, hd⟩).mapOf (by rw [hv]; exact h)
theorem numAt {value slice : Expr} {Q : Value → Shared → Prop} {v : Value} (N : News h₀ L s.heap news) (hm : (d, o) ∈ news) (hd : o.IsDictOf (intKind prog w) kvs) (hv : valueAt kvs k = some v)
    (h : Q v { s with toks := s.toks + 1 }) (hs : subscripted slice false (.ref d) (.int k t) = operate [.ref d, .int k t] (getItem (.ref d) (.int k t)) := by with_unfolding_all rfl) :
    wpAny (model prog w) A (subscriptTail value slice (.ref d) (.int k t)) Q E s :=
  have hm' := (Heap.dictOf_iff.mpr ⟨o, (N _ hm).1, hd⟩ : s.heap.DictOf (intKind prog w) d kvs).mapOf
  tail_any hm'.typeIs slot_dict_getitem.lookup (wpAny_getItem_of (intKind_is prog w k t) hm' hv h) hs
theorem numSet {v : Value} {Q : Unit → Shared → Prop} (F : Fr h₀ L s.heap m) (N : News h₀ L s.heap news) (U : UpdF d o news gg) (hd : o.IsDictOf (intKind prog w) kvs) (hz : kvs.length ≤ 1000)
    (h : ∀ h' o', Fr h₀ L h' m → News h₀ L h' (gg o') → o'.IsDictOf (intKind prog w) (stored kvs k v) → Q () { s with heap := h', toks := s.toks + 1 }) :
    wpAny (model prog w) A (setItem (.ref d) (.int k t) v) Q E s := by
  obtain ⟨pre, post, rfl, hg, a, b⟩ := U.split
  have hm := N (d, o) (by simp)
  refine wpAny_setItem_pairs (hsz := by rw [sizeLine_eq]; omega) (intKind_is prog w k t) (Heap.dictOf_iff.mpr ⟨o, hm.1, hd⟩) fun h' hmm hs => ?_
  obtain ⟨o', ho', hd'⟩ := Heap.dictOf_iff.mp hmm
  exact h h' o' (F.change hs hm.2.1 hm.2.2) (hg o' ▸ N.setIn a b hs ho') hd'
end
theorem line_M9_2 : True := by
  k_with "call ref" => ((k_here; (with_reducible show wpAny _ _ (PySem.call (Value.ref 223) [Value.ref _, Value.str _ _]) _ _ _); k_dflt (first
  | (refine' need_DD_K ?SZ ?BZ ?FZ ?NZ ?RZ ?h1Z ?h2Z ?h3Z ?h4Z ?_; (case SZ => assumption); (case BZ => assumption); (case FZ => k_asm); (case NZ => k_asm); (case RZ => exact Room.less (by assumption) (by decide)); (case h1Z => k_mem); (case h2Z => k_mem); (case h3Z => k_mem); (case h4Z => k_mem); k_whole)
  | (refine' need_SS_K ?SZ ?BZ ?FZ ?NZ ?RZ ?h1Z ?h2Z ?h3Z ?h4Z ?_; (case SZ => assumption); (case BZ => assumption); (case FZ => k_asm); (case NZ => k_asm); (case RZ => exact Room.less (by assumption) (by decide)); (case h1Z => k_mem); (case h2Z => k_mem); (case h3Z => k_mem); (case h4Z => k_mem); k_whole)); intro h' tk' F' N'; (try k_sweep)))
  k_with "compareOp NotIn int ref" => ((k_here; k_dflt (first
  | (refine' numInS ?NZ ?mZ ?dZ ?lZ ?vZ ?_; (case NZ => k_asm); (case mZ => k_mem); (case dZ => assumption); (case lZ => assumption); (case vZ => assumption))
  | (refine' numInN ?NZ ?mZ ?dZ ?lZ ?vZ ?_; (case NZ => k_asm); (case mZ => k_mem); (case dZ => assumption); (case lZ => assumption); (case vZ => assumption)))))
  k_with "subscriptTail" => ((k_here; (with_reducible show wpAny _ _ (subscriptTail _ _ (Value.ref _) (Value.int _ _)) _ _ _); k_dflt (refine' numAt ?NZ ?mZ ?dZ ?vZ ?_; (case NZ => k_asm); (case mZ => k_mem); (case dZ => assumption); (case vZ => assumption))))
  k_with "setItem ref int" => ((k_here; k_dflt (refine' numSet ?FZ ?NZ ?UZ ?dZ ?zZ ?_; (case FZ => k_asm); (case NZ => k_asm); (case UZ => k_updF); (case dZ => assumption); (case zZ => assumption); k_whole); intro h' o' F' N' hd'; (try dsimp only at N'); (try k_sweep)))
  trivial
section
variable {prog : Program} {w : World} {A : Around} {s : Shared} {base : Heap} {outer : List Env} {mean : ExcName → Option Value} {mg mb : Str → Option Value}
  {R : Result → Shared → Prop} {u du f df rc nb : Addr} {ui : UI} {fi : FI} {p : Value} {on : Obj} {kvs : List (Int × Value)} {k : Int} {tk : Tok}
theorem readD_ok {v : Value} (S : St w mean mg mb base) (B : Below A base outer s.heap) (Rm : Room A 2) (H : Has base outer s.heap [(u, instObj 142 du), (du, unitD w ui f p), (f, instObj 100 df), (df, fileD w fi "DIRECT" rc nb), (nb, on)])
    (hd : on.IsDictOf (intKind prog w) kvs) (lo : (nb == sysModules) = false) (hv : valueAt kvs k = some v) (D : Dist [(u, instObj 142 du), (du, unitD w ui f p), (f, instObj 100 df), (df, fileD w fi "DIRECT" rc nb), (nb, on)])
    (kk : ∀ h' tk', Step [] [du] s.heap h' → h'.get? du = some (unitD w ui f (.int k tk)) → R (.ok (.ret v)) { s with heap := h', toks := tk' }) :
    codeAny (model prog w) A (.call (.ref 279) ⟨[.ref u, .int k tk], []⟩) R s := by
  obtain ⟨ha, dp, fr, gd, un⟩ := A
  obtain rfl : ha = none := Rm.han
  obtain rfl : fr = some outer := B.stack
  refine' enter [(u, instObj 142 du), (du, unitD w ui f p), (f, instObj 100 df), (df, fileD w fi "DIRECT" rc nb), (nb, on)] S B Rm.d H ?ho ?hcd ?hbind ?hloc ?h ?hco ?hgen ?hk ?hcell
  walk_at "my_enter"
  intro g L' h₁ F N B' X T hold hg hL
  have T0 : KtsTurn (fs outer) g g := KtsTurn.refl
  obtain ⟨D0, D1, D2, D3, D4, _⟩ := D
  dsimp only
  try k_fold
  k_steps
  refine kk _ _ (step_cut (end0 hold (by k_asm)) H ?_) (News.get (by k_asm) (by k_mem))
  walk_at "my_ro"
theorem readD_no (S : St w mean mg mb base) (B : Below A base outer s.heap) (Rm : Room A 5) (H : Has base outer s.heap [(u, instObj 142 du), (du, unitD w ui f p), (f, instObj 100 df), (df, fileD w fi "DIRECT" rc nb), (nb, on)])
    (hd : on.IsDictOf (intKind prog w) kvs) (lo : (nb == sysModules) = false) (hv : valueAt kvs k = none)
    (kx : ∀ h' tk e, Step (fs outer) [] s.heap h' → Flew w s.heap h' e 51 18 → R (.error (.ref e)) { s with heap := h', toks := tk }) :
    codeAny (model prog w) A (.call (.ref 279) ⟨[.ref u, .int k tk], []⟩) R s := by
  obtain ⟨ha, dp, fr, gd, un⟩ := A
  obtain rfl : ha = none := Rm.han
  obtain rfl : fr = some outer := B.stack
  refine' enter [(u, instObj 142 du), (du, unitD w ui f p), (f, instObj 100 df), (df, fileD w fi "DIRECT" rc nb), (nb, on)] S B Rm.d H ?ho ?hcd ?hbind ?hloc ?h ?hco ?hgen ?hk ?hcell
  walk_at "my_enter"
  intro g L' h₁ F N B' X T hold hg hL
  have T0 : KtsTurn (fs outer) g g := KtsTurn.refl
  skip
  dsimp only
  try k_fold
  k_steps
  refine leave_first_K B' (by k_asm) (by k_asm) (by k_mem) (by k_mem) (by k_ne) T0 hold ?_ fun h' x1 x2 x3 => kx h' _ _ (step_cut x1 H ?_) x3
  · walk_at "my_bs"
  · repeat' (first | exact List.forall_mem_nil _ | refine List.forall_mem_cons.mpr ⟨fun _ => x2 _ (by k_mem) (by k_ne), ?_⟩)
end
end
section
open PySem PySem.W PyProof.Rows PySem.Spec PySem.Calls
theorem line_M10_1 : True := by
  k_with_none
  w_top off
  k_with "my:k_mem" => (first | exact m0_ | exact m1_ | exact m2_ | exact m3_ | exact m4_ | exact m5_ | exact m6_ | exact m7_ | (refine m8s_ ?_; k_mem))
  k_with "my:k_ne" => (((try dsimp only); first
  | exact AllNe.mem (by assumption) (_, _) (by k_mem)
  | exact Ne.symm (AllNe.mem (by assumption) (_, _) (by k_mem))
  | assumption
  | exact Ne.symm (by assumption)))
  k_with "my_enter" => ((
  (case ho => k_is)
  (case hcd => k_is)
  (case hbind => exact BindsTo.of_eq rfl)
  (case hloc => exact locs rfl)
  (case hco => exact rfl)
  (case hgen => exact rfl)
  (case hk => exact rfl)
  (case hcell => decide)))
  k_with "my_dist" => (((simp only [Dist, AllNe, and_true]); (repeat' (refine And.intro ?_ ?_)); all_goals k_ne))
  k_with "my_bs" => (first | exact List.forall_mem_nil _ | (refine List.forall_mem_cons.mpr ⟨⟨⟨_, by k_mem⟩, ⟨by k_ne, by k_ne⟩⟩, ?_⟩; walk_at "my_bs"))
  k_with "my_bs0" => (first | exact List.forall_mem_nil _ | (refine List.forall_mem_cons.mpr ⟨⟨_, by k_mem⟩, ?_⟩; walk_at "my_bs0"))
  k_with "my_ro" => (first | exact List.forall_mem_nil _ | (refine List.forall_mem_cons.mpr ⟨?aZ, ?bZ⟩; (case aZ => first | exact fun _ => News.get (by k_asm) (by k_mem) | exact fun hn => absurd (by simp) hn); (case bZ => walk_at "my_ro")))
  k_with "exec Raise some none" => ((k_here; (with_reducible show wpAny _ _ (exec (Stmt.Raise (some (Expr.Call (Expr.Name (PySem.Str.ofString "IoFault") _) _ _ _)) none _) _) _ _ _); k_dflt (refine' raise_K (C := 51) ?XZ ?KZ ?bZ ?tZ ?hZ ?_; (case XZ => k_asm); (case KZ => k_is); (case bZ => rfl); (case tZ => rfl); (case hZ => first | exact rfl | exact Room.hand (by assumption)); k_whole)))
  k_with "exec Raise some none" => ((k_here; (with_reducible show wpAny _ _ (exec (Stmt.Raise (some (Expr.Call (Expr.Name (PySem.Str.ofString "EndFault") _) _ _ _)) none _) _) _ _ _); k_dflt (refine' raise_K (C := 70) ?XZ ?KZ ?bZ ?tZ ?hZ ?_; (case XZ => k_asm); (case KZ => k_is); (case bZ => rfl); (case tZ => rfl); (case hZ => first | exact rfl | exact Room.hand (by assumption)); k_whole)))
  k_with "call ref" => ((k_here; (with_reducible show wpAny _ _ (PySem.call (Value.ref 51) [_, _]) _ _ _); k_dflt (refine' mk51_K ?SZ ?BZ ?FZ ?NZ ?RZ ?_; (case SZ => assumption); (case BZ => assumption); (case FZ => k_asm); (case NZ => k_asm); (case RZ => exact Room.less (by assumption) (by decide)); k_whole); intro h' tk' e' t' d' tx' ty' F' N' l1 l2 l3; (try k_sweep)))
  k_with "call ref" => ((k_here; (with_reducible show wpAny _ _ (PySem.call (Value.ref 70) [_]) _ _ _); k_dflt (refine' mk70_K ?SZ ?BZ ?FZ ?NZ ?RZ ?_; (case SZ => assumption); (case BZ => assumption); (case FZ => k_asm); (case NZ => k_asm); (case RZ => exact Room.less (by assumption) (by decide)); k_whole); intro h' tk' e' t' d' tx' ty' tz' F' N' l1 l2 l3; (try k_sweep)))
  k_with "RaiseMade" => ((k_dflt (refine' raiseMade_ ?XZ ?hZ ?_; (case XZ => k_in); (case hZ => exact News.get (by k_asm) (by k_mem)))))
  k_with "call ref" => ((k_here; (with_reducible show wpAny _ _ (PySem.call (Value.ref 223) [Value.ref _, Value.str _ _]) _ _ _); k_dflt (first
  | (refine' need_DD_K ?SZ ?BZ ?FZ ?NZ ?RZ ?h1Z ?h2Z ?h3Z ?h4Z ?_; (case SZ => assumption); (case BZ => assumption); (case FZ => k_asm); (case NZ => k_asm); (case RZ => exact Room.less (by assumption) (by decide)); (case h1Z => k_mem); (case h2Z => k_mem); (case h3Z => k_mem); (case h4Z => k_mem); k_whole)
  | (refine' need_SS_K ?SZ ?BZ ?FZ ?NZ ?RZ ?h1Z ?h2Z ?h3Z ?h4Z ?_; (case SZ => assumption); (case BZ => assumption); (case FZ => k_asm); (case NZ => k_asm); (case RZ => exact Room.less (by assumption) (by decide)); (case h1Z => k_mem); (case h2Z => k_mem); (case h3Z => k_mem); (case h4Z => k_mem); k_whole)); intro h' tk' F' N'; (try k_sweep)))
  k_with "compareOp NotIn int ref" => ((k_here; k_dflt (first
  | (refine' numInS ?NZ ?mZ ?dZ ?lZ ?vZ ?_; (case NZ => k_asm); (case mZ => k_mem); (case dZ => assumption); (case lZ => assumption); (case vZ => assumption))
  | (refine' numInN ?NZ ?mZ ?dZ ?lZ ?vZ ?_; (case NZ => k_asm); (case mZ => k_mem); (case dZ => assumption); (case lZ => assumption); (case vZ => assumption)))))
  k_with "subscriptTail" => ((k_here; (with_reducible show wpAny _ _ (subscriptTail _ _ (Value.ref _) (Value.int _ _)) _ _ _); k_dflt (refine' numAt ?NZ ?mZ ?dZ ?vZ ?_; (case NZ => k_asm); (case mZ => k_mem); (case dZ => assumption); (case vZ => assumption))))
  k_with "setItem ref int" => ((k_here; k_dflt (refine' numSet ?FZ ?NZ ?UZ ?dZ ?zZ ?_; (case FZ => k_asm); (case NZ => k_asm); (case UZ => k_updF); (case dZ => assumption); (case zZ => assumption); k_whole); intro h' o' F' N' hd'; (try dsimp only at N'); (try k_sweep)))
  trivial
section
variable {prog : Program} {w : World} {A : Around} {s : Shared} {base : Heap} {outer : List Env} {mean : ExcName → Option Value} {mg mb : Str → Option Value}
  {R : Result → Shared → Prop} {u du f df rc nb : Addr} {ui : UI} {fi : FI} {p : Value} {on : Obj} {kvs : List (Int × Value)} {k : Int} {tk : Tok}
theorem units0 {t : Tok} (S : St w mean mg mb base) (B : Below A base outer s.heap) (Rm : Room A 1)
    (kk : ∀ h' tk' tz, Step [] [] s.heap h' → R (.ok (.ret (.int 1 tz))) { s with heap := h', toks := tk' }) :
    codeAny (model prog w) A (.call (.ref 79) ⟨[.int 0 t], []⟩) R s := by
  have H : Has base outer s.heap [] := fun _ h => nomatch h
  obtain ⟨ha, dp, fr, gd, un⟩ := A
  obtain rfl : ha = none := Rm.han
  obtain rfl : fr = some outer := B.stack
  refine' enter [] S B Rm.d H ?ho ?hcd ?hbind ?hloc ?h ?hco ?hgen ?hk ?hcell
  walk_at "my_enter"
  intro g L' h₁ F N B' X T hold hg hL
  have T0 : KtsTurn (fs outer) g g := KtsTurn.refl
  skip
  dsimp only
  try k_fold
  k_steps
  exact kk _ _ _ (end0 hold (by k_asm))
end
section
variable {prog : Program} {w : World} {A : Around} {s : Shared} {base g : Heap} {outer : List Env} {mean : ExcName → Option Value} {mg mb : Str → Option Value}
  {L a : Addr} {m : Str → Option Value} {news : List (Addr × Obj)} {cn : Str} {cs : Scope} {ccd : Value} {Q E : Value → Shared → Prop} {u du f df rc nb : Addr} {ui : UI} {fi : FI} {p : Value}
theorem units0_K {hpS : Heap} {gnS : Array GenState} {drS : Drawn} {tkS : Nat} {osS : OsState} {t : Tok} (S : St w mean mg mb base) (B : Below A base outer g) (F : Fr g L hpS m) (N : News g L hpS news) (Rm : Room A 2)
    (k : ∀ h' tk tz, Fr g L h' m → News g L h' news → Q (.int 1 tz) ⟨h', gnS, drS, tk, osS⟩) (hk : cs.kind = .function := by rfl) :
    wpAny (model prog w) (A.deeper (envOf cn cs L a ccd)) (call (.ref 79) [.int 0 t]) Q E ⟨hpS, gnS, drS, tkS, osS⟩ := by
  refine wpAny_call (units0 S (B.push F hk) (Rm.deeper (by decide)) fun h' tk tz x1 => ?_)
  obtain ⟨F', N'⟩ := use00 F N x1
  exact k h' tk tz F' N'
end
theorem line_M10_2 : True := by
  k_with "call ref" => ((k_here; (with_reducible show wpAny _ _ (PySem.call (Value.ref 79) [Value.int 0 _]) _ _ _); k_dflt (refine' units0_K ?SZ ?BZ ?FZ ?NZ ?RZ  ?_; (case SZ => assumption); (case BZ => assumption); (case FZ => k_asm); (case NZ => k_asm); (case RZ => exact Room.less (by assumption) (by decide));  k_whole); intro h' tk' tz' F' N'; (try dsimp only at N'); (try k_sweep)))
  trivial
section
variable {prog : Program} {w : World} {A : Around} {s : Shared} {base : Heap} {outer : List Env} {mean : ExcName → Option Value} {mg mb : Str → Option Value}
  {R : Result → Shared → Prop} {u du f df rc nb : Addr} {ui : UI} {fi : FI} {p : Value} {on : Obj} {kvs : List (Int × Value)} {k : Int} {tk : Tok}
theorem sizeS {x : Str} {t : Tok} (S : St w mean mg mb base) (B : Below A base outer s.heap) (Rm : Room A 1) (hx : x.length ≤ 8)
    (kk : ∀ h' tk' tz, Step [] [] s.heap h' → R (.ok (.ret (.int (x.length : Int) tz))) { s with heap := h', toks := tk' }) :
    codeAny (model prog w) A (.call (.ref 272) ⟨[.str x t], []⟩) R s := by
  have H : Has base outer s.heap [] := fun _ h => nomatch h
  obtain ⟨ha, dp, fr, gd, un⟩ := A
  obtain rfl : ha = none := Rm.han
  obtain rfl : fr = some outer := B.stack
  refine' enter [] S B Rm.d H ?ho ?hcd ?hbind ?hloc ?h ?hco ?hgen ?hk ?hcell
  walk_at "my_enter"
  intro g L' h₁ F N B' X T hold hg hL
  have T0 : KtsTurn (fs outer) g g := KtsTurn.refl
  skip
  dsimp only
  try k_fold
  k_steps
  exact kk _ _ _ (end0 hold (by k_asm))
noncomputable def sizeL_s : (Rq : Program → World → Shared → Heap → List Env → (ExcName → Option Value) → (Str → Option Value) → (Str → Option Value) → (Result → Shared → Prop) → Str → Addr → Addr → Addr → Nat → Tok → Tok → Tok → Tok → Nat → Option (List Code) → Nat → Heap → Addr → Heap → Prop) ×' ((∀ (prog : Program) (w : World) (s : Shared) (base : Heap) (outer : List Env) (mean : ExcName → Option Value) (mg : Str → Option Value) (mb : Str → Option Value) (R : Result → Shared → Prop) (x : Str) (r : Addr) (t1 : Addr) (t2 : Addr) (rn : Nat) (ta : Tok) (tb : Tok) (tc : Tok) (td : Tok) (dp : Nat) (gd : Option (List Code)) (un : Nat) (g : Heap) (L' : Addr) (h₁ : Heap), Rq prog w s base outer mean mg mb R x r t1 t2 rn ta tb tc td dp gd un g L' h₁) → ∀ (A : Around) (prog : Program) (w : World) (s : Shared) (base : Heap) (outer : List Env) (mean : ExcName → Option Value) (mg : Str → Option Value) (mb : Str → Option Value) (R : Result → Shared → Prop) (x : Str) (r : Addr) (t1 : Addr) (t2 : Addr) (rn : Nat) (ta : Tok) (tb : Tok) (tc : Tok) (td : Tok) (S : St w mean mg mb base) (B : Below A base outer s.heap) (Rm : Room A 3) (H : Has base outer s.heap [(r, listOf #[.ref t1, .ref t2] rn), (t1, tupO [.int 0 ta, .int (x.length : Int) tb]), (t2, tupO [.int 5 tc, .str x td])]) (hx : x.length ≤ 8) (kk : ∀ h' tk' z tz, Step [] [] s.heap h' → z = 1 + (x.length : Int) → R (.ok (.ret (.int z tz))) { s with heap := h', toks := tk' }), codeAny (model prog w) A (.call (.ref 272) ⟨[.ref r], []⟩) R s) := by
  refine ⟨?Rq, fun kHq A prog w s base outer mean mg mb R x r t1 t2 rn ta tb tc td S B Rm H hx kk => ?pfq⟩
  case pfq =>
    obtain ⟨ha, dp, fr, gd, un⟩ := A
    obtain rfl : ha = none := Rm.han
    obtain rfl : fr = some outer := B.stack
    refine' enter [(r, listOf #[.ref t1, .ref t2] rn), (t1, tupO [.int 0 ta, .int (x.length : Int) tb]), (t2, tupO [.int 5 tc, .str x td])] S B Rm.d H ?ho ?hcd ?hbind ?hloc ?h ?hco ?hgen ?hk ?hcell
    walk_at "my_enter"
    intro g L' h₁ F N B' X T hold hg hL
    have T0 : KtsTurn (fs outer) g g := KtsTurn.refl
    skip
    revert T0; revert hL; revert hg; revert hold; revert T; revert X; revert B'; revert N; revert F; revert kk; revert hx; revert H; revert Rm; revert B; revert S
    exact kHq prog w s base outer mean mg mb R x r t1 t2 rn ta tb tc td dp gd un g L' h₁
noncomputable def sizeL_q (x : (((((Program × World) × Shared) × ((Heap × List Env) × (ExcName → Option Value))) × ((((Str → Option Value) × (Str → Option Value)) × (Result → Shared → Prop)) × ((Str × Addr) × Addr))) × ((((Addr × Nat) × Tok) × ((Tok × Tok) × Tok)) × (((Nat × Option (List Code)) × Nat) × ((Heap × Addr) × Heap))))) : Prop := sizeL_s.1 x.1.1.1.1.1 x.1.1.1.1.2 x.1.1.1.2 x.1.1.2.1.1 x.1.1.2.1.2 x.1.1.2.2 x.1.2.1.1.1 x.1.2.1.1.2 x.1.2.1.2 x.1.2.2.1.1 x.1.2.2.1.2 x.1.2.2.2 x.2.1.1.1.1 x.2.1.1.1.2 x.2.1.1.2 x.2.1.2.1.1 x.2.1.2.1.2 x.2.1.2.2 x.2.2.1.1.1 x.2.2.1.1.2 x.2.2.1.2 x.2.2.2.1.1 x.2.2.2.1.2 x.2.2.2.2
noncomputable def sizeL_c := @Classical.epsilon _ ⟨(((((PySem.Challenge.pw_sa0211_01, aWorld 1), {}), (({}, []), fun _ => none)), (((fun _ => none, fun _ => none), fun _ _ => True), ((Str.ofString "", 0), 0))), ((((0, 0), 0), ((0, 0), 0)), (((0, none), 0), (({}, 0), {}))))⟩ fun x => ¬ sizeL_q x
theorem sizeL_k : sizeL_q sizeL_c := by
  refine (?fq : ∀ (prog : Program) (w : World) (s : Shared) (base : Heap) (outer : List Env) (mean : ExcName → Option Value) (mg : Str → Option Value) (mb : Str → Option Value) (R : Result → Shared → Prop) (x : Str) (r : Addr) (t1 : Addr) (t2 : Addr) (rn : Nat) (ta : Tok) (tb : Tok) (tc : Tok) (td : Tok) (dp : Nat) (gd : Option (List Code)) (un : Nat) (g : Heap) (L' : Addr) (h₁ : Heap), sizeL_s.1 prog w s base outer mean mg mb R x r t1 t2 rn ta tb tc td dp gd un g L' h₁) _ _ _ _ _ _ _ _ _ _ _ _ _ _ _ _ _ _ _ _ _ _ _ _ 
  intro prog w s base outer mean mg mb R x r t1 t2 rn ta tb tc td dp gd un g L' h₁ S B Rm H hx kk F N B' X T hold hg hL T0
  dsimp only
  try k_fold
  k_steps
  (try dsimp only)
  refine kk _ _ _ _ (step_cut (end0 hold (by k_asm)) H ?_) (by omega)
  walk_at "my_ro"
theorem sizeL  {x : Str} {r t1 t2 : Addr} {rn : Nat} {ta tb tc td : Tok} (S : St w mean mg mb base) (B : Below A base outer s.heap) (Rm : Room A 3) (H : Has base outer s.heap [(r, listOf #[.ref t1, .ref t2] rn), (t1, tupO [.int 0 ta, .int (x.length : Int) tb]), (t2, tupO [.int 5 tc, .str x td])]) (hx : x.length ≤ 8)
    (kk : ∀ h' tk' z tz, Step [] [] s.heap h' → z = 1 + (x.length : Int) → R (.ok (.ret (.int z tz))) { s with heap := h', toks := tk' }) :
    codeAny (model prog w) A (.call (.ref 272) ⟨[.ref r], []⟩) R s :=
  sizeL_s.2 (fun prog w s base outer mean mg mb R x r t1 t2 rn ta tb tc td dp gd un g L' h₁ => hk_ax (P := sizeL_q) _ sizeL_k (((((prog, w), s), ((base, outer), mean)), (((mg, mb), R), ((x, r), t1))), ((((t2, rn), ta), ((tb, tc), td)), (((dp, gd), un), ((g, L'), h₁))))) A prog w s base outer mean mg mb R x r t1 t2 rn ta tb tc td S B Rm H hx kk
end
section
variable {prog : Program} {w : World} {A : Around} {s : Shared} {base g : Heap} {outer : List Env} {mean : ExcName → Option Value} {mg mb : Str → Option Value}
  {L a : Addr} {m : Str → Option Value} {news : List (Addr × Obj)} {cn : Str} {cs : Scope} {ccd : Value} {Q E : Value → Shared → Prop} {u du f df rc nb : Addr} {ui : UI} {fi : FI} {p : Value}
theorem sizeS_K {hpS : Heap} {gnS : Array GenState} {drS : Drawn} {tkS : Nat} {osS : OsState} {x : Str} {t : Tok} (S : St w mean mg mb base) (B : Below A base outer g) (F : Fr g L hpS m) (N : News g L hpS news) (Rm : Room A 2) (hx : x.length ≤ 8)
    (k : ∀ h' tk tz, Fr g L h' m → News g L h' news → Q (.int (x.length : Int) tz) ⟨h', gnS, drS, tk, osS⟩) (hk : cs.kind = .function := by rfl) :
    wpAny (model prog w) (A.deeper (envOf cn cs L a ccd)) (call (.ref 272) [.str x t]) Q E ⟨hpS, gnS, drS, tkS, osS⟩ := by
  refine wpAny_call (sizeS S (B.push F hk) (Rm.deeper (by decide)) hx fun h' tk tz x1 => ?_)
  obtain ⟨F', N'⟩ := use00 F N x1
  exact k h' tk tz F' N'
theorem sizeL_K {hpS : Heap} {gnS : Array GenState} {drS : Drawn} {tkS : Nat} {osS : OsState} {x : Str} {r t1 t2 : Addr} {rn : Nat} {ta tb tc td : Tok} (S : St w mean mg mb base) (B : Below A base outer g) (F : Fr g L hpS m) (N : News g L hpS news) (Rm : Room A 4)
    (h1 : (r, listOf #[.ref t1, .ref t2] rn) ∈ news) (h2 : (t1, tupO [.int 0 ta, .int (x.length : Int) tb]) ∈ news) (h3 : (t2, tupO [.int 5 tc, .str x td]) ∈ news) (hx : x.length ≤ 8)
    (k : ∀ h' tk z tz, Fr g L h' m → News g L h' news → z = 1 + (x.length : Int) → Q (.int z tz) ⟨h', gnS, drS, tk, osS⟩) (hk : cs.kind = .function := by rfl) :
    wpAny (model prog w) (A.deeper (envOf cn cs L a ccd)) (call (.ref 272) [.ref r]) Q E ⟨hpS, gnS, drS, tkS, osS⟩ := by
  refine wpAny_call (sizeL (x := x) (t1 := t1) (t2 := t2) (rn := rn) (ta := ta) (tb := tb) (tc := tc) (td := td) S (B.push F hk) (Rm.deeper (by decide)) (has_of B N ?_) hx fun h' tk z tz x1 x2 => ?_)
  · simp only [List.forall_mem_cons, List.forall_mem_nil, and_true]
    exact ⟨h1, h2, h3, fun _ hx => (nomatch hx)⟩
  · obtain ⟨F', N'⟩ := use00 F N x1
    exact k h' tk z tz F' N' x2
end
theorem line_M10_3 : True := by
  k_with "call ref" => ((k_here; (with_reducible show wpAny _ _ (PySem.call (Value.ref 272) [Value.str _ _]) _ _ _); k_dflt (refine' sizeS_K ?SZ ?BZ ?FZ ?NZ ?RZ ?hxZ ?_; (case SZ => assumption); (case BZ => assumption); (case FZ => k_asm); (case NZ => k_asm); (case RZ => exact Room.less (by assumption) (by decide)); (case hxZ => assumption); k_whole); intro h' tk' tz' F' N'; (try dsimp only at N'); (try k_sweep)))
  k_with "call ref" => ((k_here; (with_reducible show wpAny _ _ (PySem.call (Value.ref 272) [Value.ref _]) _ _ _); k_dflt (refine' sizeL_K ?SZ ?BZ ?FZ ?NZ ?RZ ?h1Z ?h2Z ?h3Z ?hxZ ?_; (case SZ => assumption); (case BZ => assumption); (case FZ => k_asm); (case NZ => k_asm); (case RZ => exact Room.less (by assumption) (by decide)); (case h1Z => k_mem); (case h2Z => k_mem); (case h3Z => k_mem); (case hxZ => assumption); k_whole); intro h' tk' z' tz' F' N' hz'; (try dsimp only at N'); (try k_sweep)))
  trivial
section
variable {prog : Program} {w : World} {A : Around} {s : Shared} {base : Heap} {outer : List Env} {mean : ExcName → Option Value} {mg mb : Str → Option Value}
  {R : Result → Shared → Prop} {u du f df rc nb : Addr} {ui : UI} {fi : FI} {p : Value} {on : Obj} {kvs : List (Int × Value)} {k : Int} {tk : Tok}
theorem writeD_ltS {x : Str} {t : Tok} (S : St w mean mg mb base) (B : Below A base outer s.heap) (Rm : Room A 6) (H : Has base outer s.heap [(u, instObj 142 du), (du, unitD w ui f p), (f, instObj 100 df), (df, fileD w fi "DIRECT" rc nb), (nb, on)]) (hd : on.IsDictOf (intKind prog w) kvs) (lo : (nb == sysModules) = false) (hz : kvs.length ≤ 1000) (hx : x.length ≤ 8) (hk : k < 1)
    (kx : ∀ h' tk e, Step (fs outer) [] s.heap h' → Flew w s.heap h' e 51 18 → R (.error (.ref e)) { s with heap := h', toks := tk }) :
    codeAny (model prog w) A (.call (.ref 286) ⟨[.ref u, .int k tk, .str x t], []⟩) R s := by
  obtain ⟨ha, dp, fr, gd, un⟩ := A
  obtain rfl : ha = none := Rm.han
  obtain rfl : fr = some outer := B.stack
  refine' enter [(u, instObj 142 du), (du, unitD w ui f p), (f, instObj 100 df), (df, fileD w fi "DIRECT" rc nb), (nb, on)] S B Rm.d H ?ho ?hcd ?hbind ?hloc ?h ?hco ?hgen ?hk ?hcell
  walk_at "my_enter"
  intro g L' h₁ F N B' X T hold hg hL
  have T0 : KtsTurn (fs outer) g g := KtsTurn.refl
  skip
  dsimp only
  try k_fold
  k_steps
  refine leave_first_K B' (by k_asm) (by k_asm) (by k_mem) (by k_mem) (by k_ne) T0 hold ?_ fun h' x1 x2 x3 => kx h' _ _ (step_cut x1 H ?_) x3
  · walk_at "my_bs"
  · repeat' (first | exact List.forall_mem_nil _ | refine List.forall_mem_cons.mpr ⟨fun _ => x2 _ (by k_mem) (by k_ne), ?_⟩)
theorem writeD_longS {x : Str} {t : Tok} (S : St w mean mg mb base) (B : Below A base outer s.heap) (Rm : Room A 6) (H : Has base outer s.heap [(u, instObj 142 du), (du, unitD w ui f p), (f, instObj 100 df), (df, fileD w fi "DIRECT" rc nb), (nb, on)]) (hd : on.IsDictOf (intKind prog w) kvs) (lo : (nb == sysModules) = false) (hz : kvs.length ≤ 1000) (hx : x.length ≤ 8) (hk : 1 ≤ k) (hl : fi.len < (x.length : Int))
    (kx : ∀ h' tk e, Step (fs outer) [] s.heap h' → Flew w s.heap h' e 51 19 → R (.error (.ref e)) { s with heap := h', toks := tk }) :
    codeAny (model prog w) A (.call (.ref 286) ⟨[.ref u, .int k tk, .str x t], []⟩) R s := by
  obtain ⟨ha, dp, fr, gd, un⟩ := A
  obtain rfl : ha = none := Rm.han
  obtain rfl : fr = some outer := B.stack
  refine' enter [(u, instObj 142 du), (du, unitD w ui f p), (f, instObj 100 df), (df, fileD w fi "DIRECT" rc nb), (nb, on)] S B Rm.d H ?ho ?hcd ?hbind ?hloc ?h ?hco ?hgen ?hk ?hcell
  walk_at "my_enter"
  intro g L' h₁ F N B' X T hold hg hL
  have T0 : KtsTurn (fs outer) g g := KtsTurn.refl
  skip
  dsimp only
  try k_fold
  k_steps
  refine leave_first_K B' (by k_asm) (by k_asm) (by k_mem) (by k_mem) (by k_ne) T0 hold ?_ fun h' x1 x2 x3 => kx h' _ _ (step_cut x1 H ?_) x3
  · walk_at "my_bs"
  · repeat' (first | exact List.forall_mem_nil _ | refine List.forall_mem_cons.mpr ⟨fun _ => x2 _ (by k_mem) (by k_ne), ?_⟩)
noncomputable def writeD_okS_s : (Rq : Program → World → Shared → Heap → List Env → (ExcName → Option Value) → (Str → Option Value) → (Str → Option Value) → (Result → Shared → Prop) → Addr → Addr → Addr → Addr → Addr → Addr → UI → FI → Value → Obj → List (Int × Value) → Int → Tok → Str → Tok → Nat → Option (List Code) → Nat → Heap → Addr → Heap → Prop) ×' ((∀ (prog : Program) (w : World) (s : Shared) (base : Heap) (outer : List Env) (mean : ExcName → Option Value) (mg : Str → Option Value) (mb : Str → Option Value) (R : Result → Shared → Prop) (u : Addr) (du : Addr) (f : Addr) (df : Addr) (rc : Addr) (nb : Addr) (ui : UI) (fi : FI) (p : Value) (on : Obj) (kvs : List (Int × Value)) (k : Int) (tk : Tok) (x : Str) (t : Tok) (dp : Nat) (gd : Option (List Code)) (un : Nat) (g : Heap) (L' : Addr) (h₁ : Heap), Rq prog w s base outer mean mg mb R u du f df rc nb ui fi p on kvs k tk x t dp gd un g L' h₁) → ∀ (A : Around) (prog : Program) (w : World) (s : Shared) (base : Heap) (outer : List Env) (mean : ExcName → Option Value) (mg : Str → Option Value) (mb : Str → Option Value) (R : Result → Shared → Prop) (u : Addr) (du : Addr) (f : Addr) (df : Addr) (rc : Addr) (nb : Addr) (ui : UI) (fi : FI) (p : Value) (on : Obj) (kvs : List (Int × Value)) (k : Int) (tk : Tok) (x : Str) (t : Tok) (S : St w mean mg mb base) (B : Below A base outer s.heap) (Rm : Room A 6) (H : Has base outer s.heap [(u, instObj 142 du), (du, unitD w ui f p), (f, instObj 100 df), (df, fileD w fi "DIRECT" rc nb), (nb, on)]) (D : Dist [(u, instObj 142 du), (du, unitD w ui f p), (f, instObj 100 df), (df, fileD w fi "DIRECT" rc nb), (nb, on)]) (hd : on.IsDictOf (intKind prog w) kvs) (lo : (nb == sysModules) = false) (hz : kvs.length ≤ 1000) (hx : x.length ≤ 8) (hk : 1 ≤ k) (hl : (x.length : Int) ≤ fi.len) (hl2 : fi.len ≤ 8) (kk : ∀ h' tk' o' t0, Step [] [du, nb] s.heap h' → h'.get? du = some (unitD w ui f (.int k tk)) → h'.get? nb = some o' → o'.IsDictOf (intKind prog w) (stored kvs k (.str (x ++ Txt.mul (PySem.Str.ofString " ") (fi.len - (x.length : Int))) t0)) → R (.ok (.ret .none)) { s with heap := h', toks := tk' }), codeAny (model prog w) A (.call (.ref 286) ⟨[.ref u, .int k tk, .str x t], []⟩) R s) := by
  refine ⟨?Rq, fun kHq A prog w s base outer mean mg mb R u du f df rc nb ui fi p on kvs k tk x t S B Rm H D hd lo hz hx hk hl hl2 kk => ?pfq⟩
  case pfq =>
    obtain ⟨ha, dp, fr, gd, un⟩ := A
    obtain rfl : ha = none := Rm.han
    obtain rfl : fr = some outer := B.stack
    refine' enter [(u, instObj 142 du), (du, unitD w ui f p), (f, instObj 100 df), (df, fileD w fi "DIRECT" rc nb), (nb, on)] S B Rm.d H ?ho ?hcd ?hbind ?hloc ?h ?hco ?hgen ?hk ?hcell
    walk_at "my_enter"
    intro g L' h₁ F N B' X T hold hg hL
    have T0 : KtsTurn (fs outer) g g := KtsTurn.refl
    obtain ⟨D0, D1, D2, D3, D4, _⟩ := D
    revert D4; revert D3; revert D2; revert D1; revert D0; revert T0; revert hL; revert hg; revert hold; revert T; revert X; revert B'; revert N; revert F; revert kk; revert hl2; revert hl; revert hk; revert hx; revert hz; revert lo; revert hd; revert H; revert Rm; revert B; revert S
    exact kHq prog w s base outer mean mg mb R u du f df rc nb ui fi p on kvs k tk x t dp gd un g L' h₁
noncomputable def writeD_okS_q (x : (((((Program × World) × (Shared × Heap)) × ((List Env × (ExcName → Option Value)) × ((Str → Option Value) × (Str → Option Value)))) × ((((Result → Shared → Prop) × Addr) × (Addr × Addr)) × ((Addr × Addr) × Addr))) × ((((UI × FI) × (Value × Obj)) × ((List (Int × Value) × Int) × (Tok × Str))) × (((Tok × Nat) × (Option (List Code) × Nat)) × ((Heap × Addr) × Heap))))) : Prop := writeD_okS_s.1 x.1.1.1.1.1 x.1.1.1.1.2 x.1.1.1.2.1 x.1.1.1.2.2 x.1.1.2.1.1 x.1.1.2.1.2 x.1.1.2.2.1 x.1.1.2.2.2 x.1.2.1.1.1 x.1.2.1.1.2 x.1.2.1.2.1 x.1.2.1.2.2 x.1.2.2.1.1 x.1.2.2.1.2 x.1.2.2.2 x.2.1.1.1.1 x.2.1.1.1.2 x.2.1.1.2.1 x.2.1.1.2.2 x.2.1.2.1.1 x.2.1.2.1.2 x.2.1.2.2.1 x.2.1.2.2.2 x.2.2.1.1.1 x.2.2.1.1.2 x.2.2.1.2.1 x.2.2.1.2.2 x.2.2.2.1.1 x.2.2.2.1.2 x.2.2.2.2
noncomputable def writeD_okS_c := @Classical.epsilon _ ⟨(((((PySem.Challenge.pw_sa0211_01, aWorld 1), ({}, {})), (([], fun _ => none), (fun _ => none, fun _ => none))), (((fun _ _ => True, 0), (0, 0)), ((0, 0), 0))), ((((⟨0, 0, 0, 0, .none, .none⟩, ⟨0, 0, 0, 0, 0, 0, 0, 0, 0, 0, Str.ofString "", Str.ofString "", 0⟩), (.none, instObj 0 0)), (([], 0), (0, Str.ofString ""))), (((0, 0), (none, 0)), (({}, 0), {}))))⟩ fun x => ¬ writeD_okS_q x
theorem writeD_okS_k : writeD_okS_q writeD_okS_c := by
  refine (?fq : ∀ (prog : Program) (w : World) (s : Shared) (base : Heap) (outer : List Env) (mean : ExcName → Option Value) (mg : Str → Option Value) (mb : Str → Option Value) (R : Result → Shared → Prop) (u : Addr) (du : Addr) (f : Addr) (df : Addr) (rc : Addr) (nb : Addr) (ui : UI) (fi : FI) (p : Value) (on : Obj) (kvs : List (Int × Value)) (k : Int) (tk : Tok) (x : Str) (t : Tok) (dp : Nat) (gd : Option (List Code)) (un : Nat) (g : Heap) (L' : Addr) (h₁ : Heap), writeD_okS_s.1 prog w s base outer mean mg mb R u du f df rc nb ui fi p on kvs k tk x t dp gd un g L' h₁) _ _ _ _ _ _ _ _ _ _ _ _ _ _ _ _ _ _ _ _ _ _ _ _ _ _ _ _ _ _ 
  intro prog w s base outer mean mg mb R u du f df rc nb ui fi p on kvs k tk x t dp gd un g L' h₁ S B Rm H hd lo hz hx hk hl hl2 kk F N B' X T hold hg hL T0 D0 D1 D2 D3 D4
  dsimp only
  try k_fold
  k_steps
  refine kk _ _ _ _ (step_cut (end0 hold (by k_asm)) H ?_) (News.get (by k_asm) (by k_mem)) (News.get (by k_asm) (by k_mem)) (by assumption)
  walk_at "my_ro"
theorem writeD_okS  {x : Str} {t : Tok} (S : St w mean mg mb base) (B : Below A base outer s.heap) (Rm : Room A 6) (H : Has base outer s.heap [(u, instObj 142 du), (du, unitD w ui f p), (f, instObj 100 df), (df, fileD w fi "DIRECT" rc nb), (nb, on)]) (D : Dist [(u, instObj 142 du), (du, unitD w ui f p), (f, instObj 100 df), (df, fileD w fi "DIRECT" rc nb), (nb, on)]) (hd : on.IsDictOf (intKind prog w) kvs) (lo : (nb == sysModules) = false) (hz : kvs.length ≤ 1000) (hx : x.length ≤ 8) (hk : 1 ≤ k) (hl : (x.length : Int) ≤ fi.len) (hl2 : fi.len ≤ 8)
    (kk : ∀ h' tk' o' t0, Step [] [du, nb] s.heap h' → h'.get? du = some (unitD w ui f (.int k tk)) → h'.get? nb = some o' → o'.IsDictOf (intKind prog w) (stored kvs k (.str (x ++ Txt.mul (PySem.Str.ofString " ") (fi.len - (x.length : Int))) t0)) → R (.ok (.ret .none)) { s with heap := h', toks := tk' }) :
    codeAny (model prog w) A (.call (.ref 286) ⟨[.ref u, .int k tk, .str x t], []⟩) R s :=
  writeD_okS_s.2 (fun prog w s base outer mean mg mb R u du f df rc nb ui fi p on kvs k tk x t dp gd un g L' h₁ => hk_ax (P := writeD_okS_q) _ writeD_okS_k (((((prog, w), (s, base)), ((outer, mean), (mg, mb))), (((R, u), (du, f)), ((df, rc), nb))), ((((ui, fi), (p, on)), ((kvs, k), (tk, x))), (((t, dp), (gd, un)), ((g, L'), h₁))))) A prog w s base outer mean mg mb R u du f df rc nb ui fi p on kvs k tk x t S B Rm H D hd lo hz hx hk hl hl2 kk
theorem writeD_ltL {x : Str} {r t1 t2 : Addr} {rn : Nat} {ta tb tc td : Tok} (S : St w mean mg mb base) (B : Below A base outer s.heap) (Rm : Room A 6) (H : Has base outer s.heap [(u, instObj 142 du), (du, unitD w ui f p), (f, instObj 100 df), (df, fileD w fi "DIRECT" rc nb), (nb, on), (r, listOf #[.ref t1, .ref t2] rn), (t1, tupO [.int 0 ta, .int (x.length : Int) tb]), (t2, tupO [.int 5 tc, .str x td])]) (hd : on.IsDictOf (intKind prog w) kvs) (lo : (nb == sysModules) = false) (hz : kvs.length ≤ 1000) (hx : x.length ≤ 8) (hk : k < 1)
    (kx : ∀ h' tk e, Step (fs outer) [] s.heap h' → Flew w s.heap h' e 51 18 → R (.error (.ref e)) { s with heap := h', toks := tk }) :
    codeAny (model prog w) A (.call (.ref 286) ⟨[.ref u, .int k tk, .ref r], []⟩) R s := by
  obtain ⟨ha, dp, fr, gd, un⟩ := A
  obtain rfl : ha = none := Rm.han
  obtain rfl : fr = some outer := B.stack
  refine' enter [(u, instObj 142 du), (du, unitD w ui f p), (f, instObj 100 df), (df, fileD w fi "DIRECT" rc nb), (nb, on), (r, listOf #[.ref t1, .ref t2] rn), (t1, tupO [.int 0 ta, .int (x.length : Int) tb]), (t2, tupO [.int 5 tc, .str x td])] S B Rm.d H ?ho ?hcd ?hbind ?hloc ?h ?hco ?hgen ?hk ?hcell
  walk_at "my_enter"
  intro g L' h₁ F N B' X T hold hg hL
  have T0 : KtsTurn (fs outer) g g := KtsTurn.refl
  skip
  dsimp only
  try k_fold
  k_steps
  refine leave_first_K B' (by k_asm) (by k_asm) (by k_mem) (by k_mem) (by k_ne) T0 hold ?_ fun h' x1 x2 x3 => kx h' _ _ (step_cut x1 H ?_) x3
  · walk_at "my_bs"
  · repeat' (first | exact List.forall_mem_nil _ | refine List.forall_mem_cons.mpr ⟨fun _ => x2 _ (by k_mem) (by k_ne), ?_⟩)
noncomputable def writeD_longL_s : (Rq : Program → World → Shared → Heap → List Env → (ExcName → Option Value) → (Str → Option Value) → (Str → Option Value) → (Result → Shared → Prop) → Addr → Addr → Addr → Addr → Addr → Addr → UI → FI → Value → Obj → List (Int × Value) → Int → Tok → Str → Addr → Addr → Addr → Nat → Tok → Tok → Tok → Tok → Nat → Option (List Code) → Nat → Heap → Addr → Heap → Prop) ×' ((∀ (prog : Program) (w : World) (s : Shared) (base : Heap) (outer : List Env) (mean : ExcName → Option Value) (mg : Str → Option Value) (mb : Str → Option Value) (R : Result → Shared → Prop) (u : Addr) (du : Addr) (f : Addr) (df : Addr) (rc : Addr) (nb : Addr) (ui : UI) (fi : FI) (p : Value) (on : Obj) (kvs : List (Int × Value)) (k : Int) (tk : Tok) (x : Str) (r : Addr) (t1 : Addr) (t2 : Addr) (rn : Nat) (ta : Tok) (tb : Tok) (tc : Tok) (td : Tok) (dp : Nat) (gd : Option (List Code)) (un : Nat) (g : Heap) (L' : Addr) (h₁ : Heap), Rq prog w s base outer mean mg mb R u du f df rc nb ui fi p on kvs k tk x r t1 t2 rn ta tb tc td dp gd un g L' h₁) → ∀ (A : Around) (prog : Program) (w : World) (s : Shared) (base : Heap) (outer : List Env) (mean : ExcName → Option Value) (mg : Str → Option Value) (mb : Str → Option Value) (R : Result → Shared → Prop) (u : Addr) (du : Addr) (f : Addr) (df : Addr) (rc : Addr) (nb : Addr) (ui : UI) (fi : FI) (p : Value) (on : Obj) (kvs : List (Int × Value)) (k : Int) (tk : Tok) (x : Str) (r : Addr) (t1 : Addr) (t2 : Addr) (rn : Nat) (ta : Tok) (tb : Tok) (tc : Tok) (td : Tok) (S : St w mean mg mb base) (B : Below A base outer s.heap) (Rm : Room A 6) (H : Has base outer s.heap [(u, instObj 142 du), (du, unitD w ui f p), (f, instObj 100 df), (df, fileD w fi "DIRECT" rc nb), (nb, on), (r, listOf #[.ref t1, .ref t2] rn), (t1, tupO [.int 0 ta, .int (x.length : Int) tb]), (t2, tupO [.int 5 tc, .str x td])]) (hd : on.IsDictOf (intKind prog w) kvs) (lo : (nb == sysModules) = false) (hz : kvs.length ≤ 1000) (hx : x.length ≤ 8) (hk : 1 ≤ k) (hl : fi.len < (1 + (x.length : Int))) (kx : ∀ h' tk e, Step (fs outer) [] s.heap h' → Flew w s.heap h' e 51 19 → R (.error (.ref e)) { s with heap := h', toks := tk }), codeAny (model prog w) A (.call (.ref 286) ⟨[.ref u, .int k tk, .ref r], []⟩) R s) := by
  refine ⟨?Rq, fun kHq A prog w s base outer mean mg mb R u du f df rc nb ui fi p on kvs k tk x r t1 t2 rn ta tb tc td S B Rm H hd lo hz hx hk hl kx => ?pfq⟩
  case pfq =>
    obtain ⟨ha, dp, fr, gd, un⟩ := A
    obtain rfl : ha = none := Rm.han
    obtain rfl : fr = some outer := B.stack
    refine' enter [(u, instObj 142 du), (du, unitD w ui f p), (f, instObj 100 df), (df, fileD w fi "DIRECT" rc nb), (nb, on), (r, listOf #[.ref t1, .ref t2] rn), (t1, tupO [.int 0 ta, .int (x.length : Int) tb]), (t2, tupO [.int 5 tc, .str x td])] S B Rm.d H ?ho ?hcd ?hbind ?hloc ?h ?hco ?hgen ?hk ?hcell
    walk_at "my_enter"
    intro g L' h₁ F N B' X T hold hg hL
    have T0 : KtsTurn (fs outer) g g := KtsTurn.refl
    skip
    revert T0; revert hL; revert hg; revert hold; revert T; revert X; revert B'; revert N; revert F; revert kx; revert hl; revert hk; revert hx; revert hz; revert lo; revert hd; revert H; revert Rm; revert B; revert S
    exact kHq prog w s base outer mean mg mb R u du f df rc nb ui fi p on kvs k tk x r t1 t2 rn ta tb tc td dp gd un g L' h₁
noncomputable def writeD_longL_q (x : ((((((Program × World) × Shared) × (Heap × List Env)) × ((((ExcName → Option Value) × (Str → Option Value)) × (Str → Option Value)) × ((Result → Shared → Prop) × Addr))) × ((((Addr × Addr) × Addr) × (Addr × Addr)) × ((UI × FI) × (Value × Obj)))) × (((((List (Int × Value) × Int) × Tok) × (Str × Addr)) × ((Addr × Addr) × (Nat × Tok))) × ((((Tok × Tok) × Tok) × (Nat × Option (List Code))) × ((Nat × Heap) × (Addr × Heap)))))) : Prop := writeD_longL_s.1 x.1.1.1.1.1.1 x.1.1.1.1.1.2 x.1.1.1.1.2 x.1.1.1.2.1 x.1.1.1.2.2 x.1.1.2.1.1.1 x.1.1.2.1.1.2 x.1.1.2.1.2 x.1.1.2.2.1 x.1.1.2.2.2 x.1.2.1.1.1.1 x.1.2.1.1.1.2 x.1.2.1.1.2 x.1.2.1.2.1 x.1.2.1.2.2 x.1.2.2.1.1 x.1.2.2.1.2 x.1.2.2.2.1 x.1.2.2.2.2 x.2.1.1.1.1.1 x.2.1.1.1.1.2 x.2.1.1.1.2 x.2.1.1.2.1 x.2.1.1.2.2 x.2.1.2.1.1 x.2.1.2.1.2 x.2.1.2.2.1 x.2.1.2.2.2 x.2.2.1.1.1.1 x.2.2.1.1.1.2 x.2.2.1.1.2 x.2.2.1.2.1 x.2.2.1.2.2 x.2.2.2.1.1 x.2.2.2.1.2 x.2.2.2.2.1 x.2.2.2.2.2
noncomputable def writeD_longL_c := @Classical.epsilon _ ⟨((((((PySem.Challenge.pw_sa0211_01, aWorld 1), {}), ({}, [])), (((fun _ => none, fun _ => none), fun _ => none), (fun _ _ => True, 0))), ((((0, 0), 0), (0, 0)), ((⟨0, 0, 0, 0, .none, .none⟩, ⟨0, 0, 0, 0, 0, 0, 0, 0, 0, 0, Str.ofString "", Str.ofString "", 0⟩), (.none, instObj 0 0)))), ((((([], 0), 0), (Str.ofString "", 0)), ((0, 0), (0, 0))), ((((0, 0), 0), (0, none)), ((0, {}), (0, {})))))⟩ fun x => ¬ writeD_longL_q x
theorem writeD_longL_k : writeD_longL_q writeD_longL_c := by
  refine (?fq : ∀ (prog : Program) (w : World) (s : Shared) (base : Heap) (outer : List Env) (mean : ExcName → Option Value) (mg : Str → Option Value) (mb : Str → Option Value) (R : Result → Shared → Prop) (u : Addr) (du : Addr) (f : Addr) (df : Addr) (rc : Addr) (nb : Addr) (ui : UI) (fi : FI) (p : Value) (on : Obj) (kvs : List (Int × Value)) (k : Int) (tk : Tok) (x : Str) (r : Addr) (t1 : Addr) (t2 : Addr) (rn : Nat) (ta : Tok) (tb : Tok) (tc : Tok) (td : Tok) (dp : Nat) (gd : Option (List Code)) (un : Nat) (g : Heap) (L' : Addr) (h₁ : Heap), writeD_longL_s.1 prog w s base outer mean mg mb R u du f df rc nb ui fi p on kvs k tk x r t1 t2 rn ta tb tc td dp gd un g L' h₁) _ _ _ _ _ _ _ _ _ _ _ _ _ _ _ _ _ _ _ _ _ _ _ _ _ _ _ _ _ _ _ _ _ _ _ _ _ 
  intro prog w s base outer mean mg mb R u du f df rc nb ui fi p on kvs k tk x r t1 t2 rn ta tb tc td dp gd un g L' h₁ S B Rm H hd lo hz hx hk hl kx F N B' X T hold hg hL T0
  dsimp only
  try k_fold
  k_steps
  refine leave_first_K B' (by k_asm) (by k_asm) (by k_mem) (by k_mem) (by k_ne) T0 hold ?_ fun h' x1 x2 x3 => kx h' _ _ (step_cut x1 H ?_) x3
  · walk_at "my_bs"
  · repeat' (first | exact List.forall_mem_nil _ | refine List.forall_mem_cons.mpr ⟨fun _ => x2 _ (by k_mem) (by k_ne), ?_⟩)
theorem writeD_longL  {x : Str} {r t1 t2 : Addr} {rn : Nat} {ta tb tc td : Tok} (S : St w mean mg mb base) (B : Below A base outer s.heap) (Rm : Room A 6) (H : Has base outer s.heap [(u, instObj 142 du), (du, unitD w ui f p), (f, instObj 100 df), (df, fileD w fi "DIRECT" rc nb), (nb, on), (r, listOf #[.ref t1, .ref t2] rn), (t1, tupO [.int 0 ta, .int (x.length : Int) tb]), (t2, tupO [.int 5 tc, .str x td])]) (hd : on.IsDictOf (intKind prog w) kvs) (lo : (nb == sysModules) = false) (hz : kvs.length ≤ 1000) (hx : x.length ≤ 8) (hk : 1 ≤ k) (hl : fi.len < (1 + (x.length : Int)))
    (kx : ∀ h' tk e, Step (fs outer) [] s.heap h' → Flew w s.heap h' e 51 19 → R (.error (.ref e)) { s with heap := h', toks := tk }) :
    codeAny (model prog w) A (.call (.ref 286) ⟨[.ref u, .int k tk, .ref r], []⟩) R s :=
  writeD_longL_s.2 (fun prog w s base outer mean mg mb R u du f df rc nb ui fi p on kvs k tk x r t1 t2 rn ta tb tc td dp gd un g L' h₁ => hk_ax (P := writeD_longL_q) _ writeD_longL_k ((((((prog, w), s), (base, outer)), (((mean, mg), mb), (R, u))), ((((du, f), df), (rc, nb)), ((ui, fi), (p, on)))), (((((kvs, k), tk), (x, r)), ((t1, t2), (rn, ta))), ((((tb, tc), td), (dp, gd)), ((un, g), (L', h₁)))))) A prog w s base outer mean mg mb R u du f df rc nb ui fi p on kvs k tk x r t1 t2 rn ta tb tc td S B Rm H hd lo hz hx hk hl kx
noncomputable def writeD_okL_s : (Rq : Program → World → Shared → Heap → List Env → (ExcName → Option Value) → (Str → Option Value) → (Str → Option Value) → (Result → Shared → Prop) → Addr → Addr → Addr → Addr → Addr → Addr → UI → FI → Value → Obj → List (Int × Value) → Int → Tok → Str → Addr → Addr → Addr → Nat → Tok → Tok → Tok → Tok → Nat → Option (List Code) → Nat → Heap → Addr → Heap → Prop) ×' ((∀ (prog : Program) (w : World) (s : Shared) (base : Heap) (outer : List Env) (mean : ExcName → Option Value) (mg : Str → Option Value) (mb : Str → Option Value) (R : Result → Shared → Prop) (u : Addr) (du : Addr) (f : Addr) (df : Addr) (rc : Addr) (nb : Addr) (ui : UI) (fi : FI) (p : Value) (on : Obj) (kvs : List (Int × Value)) (k : Int) (tk : Tok) (x : Str) (r : Addr) (t1 : Addr) (t2 : Addr) (rn : Nat) (ta : Tok) (tb : Tok) (tc : Tok) (td : Tok) (dp : Nat) (gd : Option (List Code)) (un : Nat) (g : Heap) (L' : Addr) (h₁ : Heap), Rq prog w s base outer mean mg mb R u du f df rc nb ui fi p on kvs k tk x r t1 t2 rn ta tb tc td dp gd un g L' h₁) → ∀ (A : Around) (prog : Program) (w : World) (s : Shared) (base : Heap) (outer : List Env) (mean : ExcName → Option Value) (mg : Str → Option Value) (mb : Str → Option Value) (R : Result → Shared → Prop) (u : Addr) (du : Addr) (f : Addr) (df : Addr) (rc : Addr) (nb : Addr) (ui : UI) (fi : FI) (p : Value) (on : Obj) (kvs : List (Int × Value)) (k : Int) (tk : Tok) (x : Str) (r : Addr) (t1 : Addr) (t2 : Addr) (rn : Nat) (ta : Tok) (tb : Tok) (tc : Tok) (td : Tok) (S : St w mean mg mb base) (B : Below A base outer s.heap) (Rm : Room A 6) (H : Has base outer s.heap [(u, instObj 142 du), (du, unitD w ui f p), (f, instObj 100 df), (df, fileD w fi "DIRECT" rc nb), (nb, on), (r, listOf #[.ref t1, .ref t2] rn), (t1, tupO [.int 0 ta, .int (x.length : Int) tb]), (t2, tupO [.int 5 tc, .str x td])]) (D : Dist [(u, instObj 142 du), (du, unitD w ui f p), (f, instObj 100 df), (df, fileD w fi "DIRECT" rc nb), (nb, on), (r, listOf #[.ref t1, .ref t2] rn), (t1, tupO [.int 0 ta, .int (x.length : Int) tb]), (t2, tupO [.int 5 tc, .str x td])]) (hd : on.IsDictOf (intKind prog w) kvs) (lo : (nb == sysModules) = false) (hz : kvs.length ≤ 1000) (hx : x.length ≤ 8) (hk : 1 ≤ k) (hl : (1 + (x.length : Int)) ≤ fi.len) (hl2 : fi.len ≤ 8) (kk : ∀ h' tk' o' (_ : Unit), Step [] [du, nb] s.heap h' → h'.get? du = some (unitD w ui f (.int k tk)) → h'.get? nb = some o' → o'.IsDictOf (intKind prog w) (stored kvs k (.ref r)) → R (.ok (.ret .none)) { s with heap := h', toks := tk' }), codeAny (model prog w) A (.call (.ref 286) ⟨[.ref u, .int k tk, .ref r], []⟩) R s) := by
  refine ⟨?Rq, fun kHq A prog w s base outer mean mg mb R u du f df rc nb ui fi p on kvs k tk x r t1 t2 rn ta tb tc td S B Rm H D hd lo hz hx hk hl hl2 kk => ?pfq⟩
  case pfq =>
    obtain ⟨ha, dp, fr, gd, un⟩ := A
    obtain rfl : ha = none := Rm.han
    obtain rfl : fr = some outer := B.stack
    refine' enter [(u, instObj 142 du), (du, unitD w ui f p), (f, instObj 100 df), (df, fileD w fi "DIRECT" rc nb), (nb, on), (r, listOf #[.ref t1, .ref t2] rn), (t1, tupO [.int 0 ta, .int (x.length : Int) tb]), (t2, tupO [.int 5 tc, .str x td])] S B Rm.d H ?ho ?hcd ?hbind ?hloc ?h ?hco ?hgen ?hk ?hcell
    walk_at "my_enter"
    intro g L' h₁ F N B' X T hold hg hL
    have T0 : KtsTurn (fs outer) g g := KtsTurn.refl
    obtain ⟨D0, D1, D2, D3, D4, D5, D6, D7, _⟩ := D
    revert D7; revert D6; revert D5; revert D4; revert D3; revert D2; revert D1; revert D0; revert T0; revert hL; revert hg; revert hold; revert T; revert X; revert B'; revert N; revert F; revert kk; revert hl2; revert hl; revert hk; revert hx; revert hz; revert lo; revert hd; revert H; revert Rm; revert B; revert S
    exact kHq prog w s base outer mean mg mb R u du f df rc nb ui fi p on kvs k tk x r t1 t2 rn ta tb tc td dp gd un g L' h₁
noncomputable def writeD_okL_q (x : ((((((Program × World) × Shared) × (Heap × List Env)) × ((((ExcName → Option Value) × (Str → Option Value)) × (Str → Option Value)) × ((Result → Shared → Prop) × Addr))) × ((((Addr × Addr) × Addr) × (Addr × Addr)) × ((UI × FI) × (Value × Obj)))) × (((((List (Int × Value) × Int) × Tok) × (Str × Addr)) × ((Addr × Addr) × (Nat × Tok))) × ((((Tok × Tok) × Tok) × (Nat × Option (List Code))) × ((Nat × Heap) × (Addr × Heap)))))) : Prop := writeD_okL_s.1 x.1.1.1.1.1.1 x.1.1.1.1.1.2 x.1.1.1.1.2 x.1.1.1.2.1 x.1.1.1.2.2 x.1.1.2.1.1.1 x.1.1.2.1.1.2 x.1.1.2.1.2 x.1.1.2.2.1 x.1.1.2.2.2 x.1.2.1.1.1.1 x.1.2.1.1.1.2 x.1.2.1.1.2 x.1.2.1.2.1 x.1.2.1.2.2 x.1.2.2.1.1 x.1.2.2.1.2 x.1.2.2.2.1 x.1.2.2.2.2 x.2.1.1.1.1.1 x.2.1.1.1.1.2 x.2.1.1.1.2 x.2.1.1.2.1 x.2.1.1.2.2 x.2.1.2.1.1 x.2.1.2.1.2 x.2.1.2.2.1 x.2.1.2.2.2 x.2.2.1.1.1.1 x.2.2.1.1.1.2 x.2.2.1.1.2 x.2.2.1.2.1 x.2.2.1.2.2 x.2.2.2.1.1 x.2.2.2.1.2 x.2.2.2.2.1 x.2.2.2.2.2
noncomputable def writeD_okL_c := @Classical.epsilon _ ⟨((((((PySem.Challenge.pw_sa0211_01, aWorld 1), {}), ({}, [])), (((fun _ => none, fun _ => none), fun _ => none), (fun _ _ => True, 0))), ((((0, 0), 0), (0, 0)), ((⟨0, 0, 0, 0, .none, .none⟩, ⟨0, 0, 0, 0, 0, 0, 0, 0, 0, 0, Str.ofString "", Str.ofString "", 0⟩), (.none, instObj 0 0)))), ((((([], 0), 0), (Str.ofString "", 0)), ((0, 0), (0, 0))), ((((0, 0), 0), (0, none)), ((0, {}), (0, {})))))⟩ fun x => ¬ writeD_okL_q x
theorem writeD_okL_k : writeD_okL_q writeD_okL_c := by
  refine (?fq : ∀ (prog : Program) (w : World) (s : Shared) (base : Heap) (outer : List Env) (mean : ExcName → Option Value) (mg : Str → Option Value) (mb : Str → Option Value) (R : Result → Shared → Prop) (u : Addr) (du : Addr) (f : Addr) (df : Addr) (rc : Addr) (nb : Addr) (ui : UI) (fi : FI) (p : Value) (on : Obj) (kvs : List (Int × Value)) (k : Int) (tk : Tok) (x : Str) (r : Addr) (t1 : Addr) (t2 : Addr) (rn : Nat) (ta : Tok) (tb : Tok) (tc : Tok) (td : Tok) (dp : Nat) (gd : Option (List Code)) (un : Nat) (g : Heap) (L' : Addr) (h₁ : Heap), writeD_okL_s.1 prog w s base outer mean mg mb R u du f df rc nb ui fi p on kvs k tk x r t1 t2 rn ta tb tc td dp gd un g L' h₁) _ _ _ _ _ _ _ _ _ _ _ _ _ _ _ _ _ _ _ _ _ _ _ _ _ _ _ _ _ _ _ _ _ _ _ _ _ 
  intro prog w s base outer mean mg mb R u du f df rc nb ui fi p on kvs k tk x r t1 t2 rn ta tb tc td dp gd un g L' h₁ S B Rm H hd lo hz hx hk hl hl2 kk F N B' X T hold hg hL T0 D0 D1 D2 D3 D4 D5 D6 D7
  dsimp only
  try k_fold
  k_steps
  refine kk _ _ _ () (step_cut (end0 hold (by k_asm)) H ?_) (News.get (by k_asm) (by k_mem)) (News.get (by k_asm) (by k_mem)) (by assumption)
  walk_at "my_ro"
theorem writeD_okL  {x : Str} {r t1 t2 : Addr} {rn : Nat} {ta tb tc td : Tok} (S : St w mean mg mb base) (B : Below A base outer s.heap) (Rm : Room A 6) (H : Has base outer s.heap [(u, instObj 142 du), (du, unitD w ui f p), (f, instObj 100 df), (df, fileD w fi "DIRECT" rc nb), (nb, on), (r, listOf #[.ref t1, .ref t2] rn), (t1, tupO [.int 0 ta, .int (x.length : Int) tb]), (t2, tupO [.int 5 tc, .str x td])]) (D : Dist [(u, instObj 142 du), (du, unitD w ui f p), (f, instObj 100 df), (df, fileD w fi "DIRECT" rc nb), (nb, on), (r, listOf #[.ref t1, .ref t2] rn), (t1, tupO [.int 0 ta, .int (x.length : Int) tb]), (t2, tupO [.int 5 tc, .str x td])]) (hd : on.IsDictOf (intKind prog w) kvs) (lo : (nb == sysModules) = false) (hz : kvs.length ≤ 1000) (hx : x.length ≤ 8) (hk : 1 ≤ k) (hl : (1 + (x.length : Int)) ≤ fi.len) (hl2 : fi.len ≤ 8)
    (kk : ∀ h' tk' o' (_ : Unit), Step [] [du, nb] s.heap h' → h'.get? du = some (unitD w ui f (.int k tk)) → h'.get? nb = some o' → o'.IsDictOf (intKind prog w) (stored kvs k (.ref r)) → R (.ok (.ret .none)) { s with heap := h', toks := tk' }) :
    codeAny (model prog w) A (.call (.ref 286) ⟨[.ref u, .int k tk, .ref r], []⟩) R s :=
  writeD_okL_s.2 (fun prog w s base outer mean mg mb R u du f df rc nb ui fi p on kvs k tk x r t1 t2 rn ta tb tc td dp gd un g L' h₁ => hk_ax (P := writeD_okL_q) _ writeD_okL_k ((((((prog, w), s), (base, outer)), (((mean, mg), mb), (R, u))), ((((du, f), df), (rc, nb)), ((ui, fi), (p, on)))), (((((kvs, k), tk), (x, r)), ((t1, t2), (rn, ta))), ((((tb, tc), td), (dp, gd)), ((un, g), (L', h₁)))))) A prog w s base outer mean mg mb R u du f df rc nb ui fi p on kvs k tk x r t1 t2 rn ta tb tc td S B Rm H D hd lo hz hx hk hl hl2 kk
end
end
section
open PySem PySem.W PyProof.Rows PySem.Spec PySem.Calls
theorem line_M11_1 : True := by
  k_with_none
  w_top off
  k_with "my:k_mem" => (first | exact m0_ | exact m1_ | exact m2_ | exact m3_ | exact m4_ | exact m5_ | exact m6_ | exact m7_ | (refine m8s_ ?_; k_mem))
  k_with "my:k_ne" => (((try dsimp only); first
  | exact AllNe.mem (by assumption) (_, _) (by k_mem)
  | exact Ne.symm (AllNe.mem (by assumption) (_, _) (by k_mem))
  | assumption
  | exact Ne.symm (by assumption)
  | exact Nat.ne_of_lt (lt_at (by assumption) (by k_mem))
  | exact Nat.ne_of_gt (lt_at (by assumption) (by k_mem))
  | (refine neN ?_; omega)))
  k_with "my_enter" => ((
  (case ho => k_is)
  (case hcd => k_is)
  (case hbind => exact BindsTo.of_eq rfl)
  (case hloc => exact locs rfl)
  (case hco => exact rfl)
  (case hgen => exact rfl)
  (case hk => exact rfl)
  (case hcell => decide)))
  k_with "my_dist" => (((simp only [Dist, AllNe, and_true]); (repeat' (refine And.intro ?_ ?_)); all_goals k_ne))
  k_with "my_bs" => (first | exact List.forall_mem_nil _ | (refine List.forall_mem_cons.mpr ⟨⟨⟨_, by k_mem⟩, ⟨by k_ne, by k_ne⟩⟩, ?_⟩; walk_at "my_bs"))
  k_with "my_bs0" => (first | exact List.forall_mem_nil _ | (refine List.forall_mem_cons.mpr ⟨⟨_, by k_mem⟩, ?_⟩; walk_at "my_bs0"))
  k_with "my_ro" => (first | exact List.forall_mem_nil _ | (refine List.forall_mem_cons.mpr ⟨?aZ, ?bZ⟩; (case aZ => first | exact fun _ => News.get (by k_asm) (by k_mem) | exact fun hn => absurd (by simp) hn); (case bZ => walk_at "my_ro")))
  k_with "exec Raise some none" => ((k_here; (with_reducible show wpAny _ _ (exec (Stmt.Raise (some (Expr.Call (Expr.Name (PySem.Str.ofString "IoFault") _) _ _ _)) none _) _) _ _ _); k_dflt (refine' raise_K (C := 51) ?XZ ?KZ ?bZ ?tZ ?hZ ?_; (case XZ => k_asm); (case KZ => k_is); (case bZ => rfl); (case tZ => rfl); (case hZ => first | exact rfl | exact Room.hand (by assumption)); k_whole)))
  k_with "exec Raise some none" => ((k_here; (with_reducible show wpAny _ _ (exec (Stmt.Raise (some (Expr.Call (Expr.Name (PySem.Str.ofString "EndFault") _) _ _ _)) none _) _) _ _ _); k_dflt (refine' raise_K (C := 70) ?XZ ?KZ ?bZ ?tZ ?hZ ?_; (case XZ => k_asm); (case KZ => k_is); (case bZ => rfl); (case tZ => rfl); (case hZ => first | exact rfl | exact Room.hand (by assumption)); k_whole)))
  k_with "call ref" => ((k_here; (with_reducible show wpAny _ _ (PySem.call (Value.ref 51) [_, _]) _ _ _); k_dflt (refine' mk51_K ?SZ ?BZ ?FZ ?NZ ?RZ ?_; (case SZ => assumption); (case BZ => assumption); (case FZ => k_asm); (case NZ => k_asm); (case RZ => exact Room.less (by assumption) (by decide)); k_whole); intro h' tk' e' t' d' tx' ty' F' N' l1 l2 l3; (try k_sweep)))
  k_with "call ref" => ((k_here; (with_reducible show wpAny _ _ (PySem.call (Value.ref 70) [_]) _ _ _); k_dflt (refine' mk70_K ?SZ ?BZ ?FZ ?NZ ?RZ ?_; (case SZ => assumption); (case BZ => assumption); (case FZ => k_asm); (case NZ => k_asm); (case RZ => exact Room.less (by assumption) (by decide)); k_whole); intro h' tk' e' t' d' tx' ty' tz' F' N' l1 l2 l3; (try k_sweep)))
  k_with "RaiseMade" => ((k_dflt (refine' raiseMade_ ?XZ ?hZ ?_; (case XZ => k_in); (case hZ => exact News.get (by k_asm) (by k_mem)))))
  k_with "my_enterC" => ((
  (case ho => k_is)
  (case hcd => k_is)
  (case hbind => exact BindsTo.of_eq rfl)
  (case hkind => exact rfl)
  (case hnd => decide +kernel)
  (case hco => exact rfl)
  (case hgen => exact rfl)
  (case hk => exact rfl)))
  k_with "call ref" => ((k_here; (with_reducible show wpAny _ _ (PySem.call (Value.ref 223) [Value.ref _, Value.str _ _]) _ _ _); k_dflt (first
  | (refine' need_DD_K ?SZ ?BZ ?FZ ?NZ ?RZ ?h1Z ?h2Z ?h3Z ?h4Z ?_; (case SZ => assumption); (case BZ => assumption); (case FZ => k_asm); (case NZ => k_asm); (case RZ => exact Room.less (by assumption) (by decide)); (case h1Z => k_mem); (case h2Z => k_mem); (case h3Z => k_mem); (case h4Z => k_mem); k_whole)
  | (refine' need_SS_K ?SZ ?BZ ?FZ ?NZ ?RZ ?h1Z ?h2Z ?h3Z ?h4Z ?_; (case SZ => assumption); (case BZ => assumption); (case FZ => k_asm); (case NZ => k_asm); (case RZ => exact Room.less (by assumption) (by decide)); (case h1Z => k_mem); (case h2Z => k_mem); (case h3Z => k_mem); (case h4Z => k_mem); k_whole)); intro h' tk' F' N'; (try k_sweep)))
  k_with "compareOp NotIn int ref" => ((k_here; k_dflt (first
  | (refine' numInS ?NZ ?mZ ?dZ ?lZ ?vZ ?_; (case NZ => k_asm); (case mZ => k_mem); (case dZ => assumption); (case lZ => assumption); (case vZ => assumption))
  | (refine' numInN ?NZ ?mZ ?dZ ?lZ ?vZ ?_; (case NZ => k_asm); (case mZ => k_mem); (case dZ => assumption); (case lZ => assumption); (case vZ => assumption)))))
  k_with "subscriptTail" => ((k_here; (with_reducible show wpAny _ _ (subscriptTail _ _ (Value.ref _) (Value.int _ _)) _ _ _); k_dflt (refine' numAt ?NZ ?mZ ?dZ ?vZ ?_; (case NZ => k_asm); (case mZ => k_mem); (case dZ => assumption); (case vZ => assumption))))
  k_with "setItem ref int" => ((k_here; k_dflt (refine' numSet ?FZ ?NZ ?UZ ?dZ ?zZ ?_; (case FZ => k_asm); (case NZ => k_asm); (case UZ => k_updF); (case dZ => assumption); (case zZ => assumption); k_whole); intro h' o' F' N' hd'; (try dsimp only at N'); (try k_sweep)))
  trivial
section
variable {prog : Program} {w : World} {A : Around} {E : Value → Shared → Prop} {s : Shared} {h₀ : Heap} {L l : Addr} {m : Str → Option Value} {news : List (Addr × Obj)} {gg : Obj → List (Addr × Obj)} {xs ys : List Value} {n : Nat}
theorem listAt {value slice : PySem.Expr} {k : Int} {u : Tok} {v : Value} {Q : Value → Shared → Prop} (N : News h₀ L s.heap news) (hm : (l, listOf xs.toArray n) ∈ news)
    (h0 : 0 ≤ k) (hfit : k < 2 ^ 63) (hv : xs[k.toNat]? = some v) (h : Q v s)
    (hs : subscripted slice false (.ref l) (.int k u) = operate [.ref l, .int k u] (getItem (.ref l) (.int k u)) := by with_unfolding_all rfl) :
    wpAny (model prog w) A (subscriptTail value slice (.ref l) (.int k u)) Q E s := by
  have hl : s.heap.IsList l xs.toArray := ⟨_, (N _ hm).1, rfl, n, rfl⟩
  exact tail_any hl.typeIs slot_list_getitem.lookup (wpAny_getItem_list hl h0 hfit (by simpa using hv) h) hs
noncomputable def Halt (P : Prop) : Prop := P
theorem halt {P : Prop} (h : Halt P) : P := h
theorem kl_last_app (ys : List Value) (v : Value) : kl_last (ys ++ [v]) = some (ys, v) := by
  induction ys with
  | nil => rfl
  | cons x r ih => rw [List.cons_append, kl_last, ih]
theorem upd_of {o o' : Obj} : ∀ {news : List (Addr × Obj)} {gg : Obj → List (Addr × Obj)}, UpdF l o news gg → Upd l o o' news (gg o')
  | _, _, .head h => .head h
  | _, _, .tail h r => .tail h (upd_of r)
theorem popLast {v : Value} {Q : Value → Shared → Prop} (F : Fr h₀ L s.heap m) (N : News h₀ L s.heap news) (e : xs = ys ++ [v]) (hz : xs.length ≤ 20) (U : UpdF l (listOf xs.toArray n) news gg)
    (h : ∀ h', Fr h₀ L h' m → News h₀ L h' (gg (listOf ys.toArray (n + 1))) → Q v { s with heap := h' }) : wpAny (model prog w) A (call (.builtin "list.pop") [.ref l]) Q E s :=
  kl_pop F N (by rw [e]; exact kl_last_app ys v) (upd_of U) (by show xs.length ≤ _; rw [sizeLine_eq]; omega) h
end
theorem line_M11_2 : True := by
  k_with "subscriptTail" => ((k_here; (with_reducible show wpAny _ _ (subscriptTail _ _ (Value.ref _) (Value.int _ _)) _ _ _); k_dflt (refine' listAt ?NZ ?mZ ?aZ ?bZ ?vZ ?_; (case NZ => k_asm); (case mZ => k_mem); (case aZ => omega); (case bZ => omega); (case vZ => first | assumption | (simp only [Int.add_sub_cancel]; assumption)))))
  k_with "exec While Compare" => (refine halt ?_)
  k_with "call builtin:list.pop" => ((k_here; k_dflt (refine' popLast ?FZ ?NZ ?eZ ?zZ ?UZ ?_; (case FZ => k_asm); (case NZ => k_asm); (case eZ => assumption); (case zZ => assumption); (case UZ => k_updF)); intro h' F' N'; (try dsimp only at N'); (try k_sweep)))
  k_with "call ref" => ((k_here; (with_reducible show wpAny _ _ (PySem.call (Value.ref 223) [Value.ref _, Value.str _ _]) _ _ _); k_dflt (first
  | (refine' need_DS_K ?SZ ?BZ ?FZ ?NZ ?RZ ?h1Z ?h2Z ?h3Z ?h4Z ?_; (case SZ => assumption); (case BZ => assumption); (case FZ => k_asm); (case NZ => k_asm); (case RZ => exact Room.less (by assumption) (by decide)); (case h1Z => k_mem); (case h2Z => k_mem); (case h3Z => k_mem); (case h4Z => k_mem); k_whole)
  | (refine' need_SD_K ?SZ ?BZ ?FZ ?NZ ?RZ ?h1Z ?h2Z ?h3Z ?h4Z ?_; (case SZ => assumption); (case BZ => assumption); (case FZ => k_asm); (case NZ => k_asm); (case RZ => exact Room.less (by assumption) (by decide)); (case h1Z => k_mem); (case h2Z => k_mem); (case h3Z => k_mem); (case h4Z => k_mem); k_whole)); intro h' tk' e' x1' x2'))
  trivial
section
variable {prog : Program} {w : World} {A : Around} {s : Shared} {base : Heap} {outer : List Env} {mean : ExcName → Option Value} {mg mb : Str → Option Value}
  {R : Result → Shared → Prop} {u du f df rc nb : Addr} {ui : UI} {fi : FI} {p : Int} {tp : Tok} {xs : List Value} {rn : Nat}
theorem rewindS (S : St w mean mg mb base) (B : Below A base outer s.heap) (Rm : Room A 2) (H : Has base outer s.heap [(u, instObj 142 du), (du, unitD w ui f (.int p tp)), (f, instObj 100 df), (df, fileD w fi "SEQUENTIAL" rc nb)]) (D : Dist [(u, instObj 142 du), (du, unitD w ui f (.int p tp)), (f, instObj 100 df), (df, fileD w fi "SEQUENTIAL" rc nb)])
    (kk : ∀ h' tk' tz, Step [] [du] s.heap h' → h'.get? du = some (unitD w ui f (.int 0 tz)) → R (.ok (.ret .none)) { s with heap := h', toks := tk' }) :
    codeAny (model prog w) A (.call (.ref 265) ⟨[.ref u], []⟩) R s := by
  obtain ⟨ha, dp, fr, gd, un⟩ := A
  obtain rfl : ha = none := Rm.han
  obtain rfl : fr = some outer := B.stack
  refine' enter [(u, instObj 142 du), (du, unitD w ui f (.int p tp)), (f, instObj 100 df), (df, fileD w fi "SEQUENTIAL" rc nb)] S B Rm.d H ?ho ?hcd ?hbind ?hloc ?h ?hco ?hgen ?hk ?hcell
  walk_at "my_enter"
  intro g L' h₁ F N B' X T hold hg hL
  have T0 : KtsTurn (fs outer) g g := KtsTurn.refl
  obtain ⟨D0, D1, D2, D3, _⟩ := D
  dsimp only
  try k_fold
  k_steps
  refine kk _ _ _ (step_cut (end0 hold (by k_asm)) H ?_) (News.get (by k_asm) (by k_mem))
  walk_at "my_ro"
theorem back0S (S : St w mean mg mb base) (B : Below A base outer s.heap) (Rm : Room A 2) (H : Has base outer s.heap [(u, instObj 142 du), (du, unitD w ui f (.int p tp)), (f, instObj 100 df), (df, fileD w fi "SEQUENTIAL" rc nb)]) (D : Dist [(u, instObj 142 du), (du, unitD w ui f (.int p tp)), (f, instObj 100 df), (df, fileD w fi "SEQUENTIAL" rc nb)]) (hp : p ≤ 0)
    (kk : ∀ h' tk', Step [] [] s.heap h' → R (.ok (.ret .none)) { s with heap := h', toks := tk' }) :
    codeAny (model prog w) A (.call (.ref 258) ⟨[.ref u], []⟩) R s := by
  obtain ⟨ha, dp, fr, gd, un⟩ := A
  obtain rfl : ha = none := Rm.han
  obtain rfl : fr = some outer := B.stack
  refine' enter [(u, instObj 142 du), (du, unitD w ui f (.int p tp)), (f, instObj 100 df), (df, fileD w fi "SEQUENTIAL" rc nb)] S B Rm.d H ?ho ?hcd ?hbind ?hloc ?h ?hco ?hgen ?hk ?hcell
  walk_at "my_enter"
  intro g L' h₁ F N B' X T hold hg hL
  have T0 : KtsTurn (fs outer) g g := KtsTurn.refl
  obtain ⟨D0, D1, D2, D3, _⟩ := D
  dsimp only
  try k_fold
  k_steps
  refine kk _ _ (step_cut (end0 hold (by k_asm)) H ?_)
  walk_at "my_ro"
theorem backS (S : St w mean mg mb base) (B : Below A base outer s.heap) (Rm : Room A 2) (H : Has base outer s.heap [(u, instObj 142 du), (du, unitD w ui f (.int p tp)), (f, instObj 100 df), (df, fileD w fi "SEQUENTIAL" rc nb)]) (D : Dist [(u, instObj 142 du), (du, unitD w ui f (.int p tp)), (f, instObj 100 df), (df, fileD w fi "SEQUENTIAL" rc nb)]) (hp : 0 < p)
    (kk : ∀ h' tk' tz, Step [] [du] s.heap h' → h'.get? du = some (unitD w ui f (.int (p - 1) tz)) → R (.ok (.ret .none)) { s with heap := h', toks := tk' }) :
    codeAny (model prog w) A (.call (.ref 258) ⟨[.ref u], []⟩) R s := by
  obtain ⟨ha, dp, fr, gd, un⟩ := A
  obtain rfl : ha = none := Rm.han
  obtain rfl : fr = some outer := B.stack
  refine' enter [(u, instObj 142 du), (du, unitD w ui f (.int p tp)), (f, instObj 100 df), (df, fileD w fi "SEQUENTIAL" rc nb)] S B Rm.d H ?ho ?hcd ?hbind ?hloc ?h ?hco ?hgen ?hk ?hcell
  walk_at "my_enter"
  intro g L' h₁ F N B' X T hold hg hL
  have T0 : KtsTurn (fs outer) g g := KtsTurn.refl
  obtain ⟨D0, D1, D2, D3, _⟩ := D
  dsimp only
  try k_fold
  k_steps
  refine kk _ _ _ (step_cut (end0 hold (by k_asm)) H ?_) (News.get (by k_asm) (by k_mem))
  walk_at "my_ro"
theorem readS_far (S : St w mean mg mb base) (B : Below A base outer s.heap) (Rm : Room A 5) (H : Has base outer s.heap [(u, instObj 142 du), (du, unitD w ui f (.int p tp)), (f, instObj 100 df), (df, fileD w fi "SEQUENTIAL" rc nb), (rc, listOf xs.toArray rn)]) (D : Dist [(u, instObj 142 du), (du, unitD w ui f (.int p tp)), (f, instObj 100 df), (df, fileD w fi "SEQUENTIAL" rc nb), (rc, listOf xs.toArray rn)]) (hz : xs.length ≤ 20) (hp : (xs.length : Int) < p)
    (kx : ∀ h' tk e, Step (fs outer) [] s.heap h' → Flew w s.heap h' e 51 17 → R (.error (.ref e)) { s with heap := h', toks := tk }) :
    codeAny (model prog w) A (.call (.ref 230) ⟨[.ref u], []⟩) R s := by
  have hx : xs.toArray.size = xs.length := rfl
  obtain ⟨ha, dp, fr, gd, un⟩ := A
  obtain rfl : ha = none := Rm.han
  obtain rfl : fr = some outer := B.stack
  refine' enter [(u, instObj 142 du), (du, unitD w ui f (.int p tp)), (f, instObj 100 df), (df, fileD w fi "SEQUENTIAL" rc nb), (rc, listOf xs.toArray rn)] S B Rm.d H ?ho ?hcd ?hbind ?hloc ?h ?hco ?hgen ?hk ?hcell
  walk_at "my_enter"
  intro g L' h₁ F N B' X T hold hg hL
  have T0 : KtsTurn (fs outer) g g := KtsTurn.refl
  obtain ⟨D0, D1, D2, D3, D4, _⟩ := D
  dsimp only
  try k_fold
  k_steps
  refine leave_first_K B' (by k_asm) (by k_asm) (by k_mem) (by k_mem) (by k_ne) T0 hold ?_ fun h' x1 x2 x3 => kx h' _ _ (step_cut x1 H ?_) x3
  · walk_at "my_bs"
  · repeat' (first | exact List.forall_mem_nil _ | refine List.forall_mem_cons.mpr ⟨fun _ => x2 _ (by k_mem) (by k_ne), ?_⟩)
noncomputable def readS_end_s : (Rq : Program → World → Shared → Heap → List Env → (ExcName → Option Value) → (Str → Option Value) → (Str → Option Value) → (Result → Shared → Prop) → Addr → Addr → Addr → Addr → Addr → Addr → UI → FI → Int → Tok → List Value → Nat → Nat → Option (List Code) → Nat → Heap → Addr → Heap → Prop) ×' ((∀ (prog : Program) (w : World) (s : Shared) (base : Heap) (outer : List Env) (mean : ExcName → Option Value) (mg : Str → Option Value) (mb : Str → Option Value) (R : Result → Shared → Prop) (u : Addr) (du : Addr) (f : Addr) (df : Addr) (rc : Addr) (nb : Addr) (ui : UI) (fi : FI) (p : Int) (tp : Tok) (xs : List Value) (rn : Nat) (dp : Nat) (gd : Option (List Code)) (un : Nat) (g : Heap) (L' : Addr) (h₁ : Heap), Rq prog w s base outer mean mg mb R u du f df rc nb ui fi p tp xs rn dp gd un g L' h₁) → ∀ (A : Around) (prog : Program) (w : World) (s : Shared) (base : Heap) (outer : List Env) (mean : ExcName → Option Value) (mg : Str → Option Value) (mb : Str → Option Value) (R : Result → Shared → Prop) (u : Addr) (du : Addr) (f : Addr) (df : Addr) (rc : Addr) (nb : Addr) (ui : UI) (fi : FI) (p : Int) (tp : Tok) (xs : List Value) (rn : Nat) (S : St w mean mg mb base) (B : Below A base outer s.heap) (Rm : Room A 6) (H : Has base outer s.heap [(u, instObj 142 du), (du, unitD w ui f (.int p tp)), (f, instObj 100 df), (df, fileD w fi "SEQUENTIAL" rc nb), (rc, listOf xs.toArray rn)]) (D : Dist [(u, instObj 142 du), (du, unitD w ui f (.int p tp)), (f, instObj 100 df), (df, fileD w fi "SEQUENTIAL" rc nb), (rc, listOf xs.toArray rn)]) (hz : xs.length ≤ 20) (hp : (xs.length : Int) = p) (kx : ∀ h' tk e tz, Step (fs outer) [du] s.heap h' → h'.get? du = some (unitD w ui f (.int (p + 1) tz)) → Flew w s.heap h' e 70 (-1) → R (.error (.ref e)) { s with heap := h', toks := tk }), codeAny (model prog w) A (.call (.ref 230) ⟨[.ref u], []⟩) R s) := by
  refine ⟨?Rq, fun kHq A prog w s base outer mean mg mb R u du f df rc nb ui fi p tp xs rn S B Rm H D hz hp kx => ?pfq⟩
  case pfq =>
    have hx : xs.toArray.size = xs.length := rfl
    obtain ⟨ha, dp, fr, gd, un⟩ := A
    obtain rfl : ha = none := Rm.han
    obtain rfl : fr = some outer := B.stack
    refine' enter [(u, instObj 142 du), (du, unitD w ui f (.int p tp)), (f, instObj 100 df), (df, fileD w fi "SEQUENTIAL" rc nb), (rc, listOf xs.toArray rn)] S B Rm.d H ?ho ?hcd ?hbind ?hloc ?h ?hco ?hgen ?hk ?hcell
    walk_at "my_enter"
    intro g L' h₁ F N B' X T hold hg hL
    have T0 : KtsTurn (fs outer) g g := KtsTurn.refl
    obtain ⟨D0, D1, D2, D3, D4, _⟩ := D
    revert D4; revert D3; revert D2; revert D1; revert D0; revert T0; revert hL; revert hg; revert hold; revert T; revert X; revert B'; revert N; revert F; revert hx; revert kx; revert hp; revert hz; revert H; revert Rm; revert B; revert S
    exact kHq prog w s base outer mean mg mb R u du f df rc nb ui fi p tp xs rn dp gd un g L' h₁
noncomputable def readS_end_q (x : (((((Program × World) × (Shared × Heap)) × ((List Env × (ExcName → Option Value)) × (Str → Option Value))) × ((((Str → Option Value) × (Result → Shared → Prop)) × (Addr × Addr)) × ((Addr × Addr) × Addr))) × ((((Addr × UI) × (FI × Int)) × ((Tok × List Value) × Nat)) × (((Nat × Option (List Code)) × Nat) × ((Heap × Addr) × Heap))))) : Prop := readS_end_s.1 x.1.1.1.1.1 x.1.1.1.1.2 x.1.1.1.2.1 x.1.1.1.2.2 x.1.1.2.1.1 x.1.1.2.1.2 x.1.1.2.2 x.1.2.1.1.1 x.1.2.1.1.2 x.1.2.1.2.1 x.1.2.1.2.2 x.1.2.2.1.1 x.1.2.2.1.2 x.1.2.2.2 x.2.1.1.1.1 x.2.1.1.1.2 x.2.1.1.2.1 x.2.1.1.2.2 x.2.1.2.1.1 x.2.1.2.1.2 x.2.1.2.2 x.2.2.1.1.1 x.2.2.1.1.2 x.2.2.1.2 x.2.2.2.1.1 x.2.2.2.1.2 x.2.2.2.2
noncomputable def readS_end_c := @Classical.epsilon _ ⟨(((((PySem.Challenge.pw_sa0211_01, aWorld 1), ({}, {})), (([], fun _ => none), fun _ => none)), (((fun _ => none, fun _ _ => True), (0, 0)), ((0, 0), 0))), ((((0, ⟨0, 0, 0, 0, .none, .none⟩), (⟨0, 0, 0, 0, 0, 0, 0, 0, 0, 0, Str.ofString "", Str.ofString "", 0⟩, 0)), ((0, []), 0)), (((0, none), 0), (({}, 0), {}))))⟩ fun x => ¬ readS_end_q x
theorem readS_end_k : readS_end_q readS_end_c := by
  refine (?fq : ∀ (prog : Program) (w : World) (s : Shared) (base : Heap) (outer : List Env) (mean : ExcName → Option Value) (mg : Str → Option Value) (mb : Str → Option Value) (R : Result → Shared → Prop) (u : Addr) (du : Addr) (f : Addr) (df : Addr) (rc : Addr) (nb : Addr) (ui : UI) (fi : FI) (p : Int) (tp : Tok) (xs : List Value) (rn : Nat) (dp : Nat) (gd : Option (List Code)) (un : Nat) (g : Heap) (L' : Addr) (h₁ : Heap), readS_end_s.1 prog w s base outer mean mg mb R u du f df rc nb ui fi p tp xs rn dp gd un g L' h₁) _ _ _ _ _ _ _ _ _ _ _ _ _ _ _ _ _ _ _ _ _ _ _ _ _ _ _ 
  intro prog w s base outer mean mg mb R u du f df rc nb ui fi p tp xs rn dp gd un g L' h₁ S B Rm H hz hp kx hx F N B' X T hold hg hL T0 D0 D1 D2 D3 D4
  dsimp only
  try k_fold
  k_steps
  refine leave_first_K B' (by k_asm) (by k_asm) (by k_mem) (by k_mem) (by k_ne) T0 hold ?_ fun h' x1 x2 x3 => kx h' _ _ _ (step_cut x1 H ?_) (x2 (du, _) (by k_mem) (by k_ne)) x3
  · walk_at "my_bs"
  · repeat' (first | exact List.forall_mem_nil _ | refine List.forall_mem_cons.mpr ⟨fun hn => by first | exact x2 _ (by k_mem) (by k_ne) | exact absurd (by simp) hn, ?_⟩)
theorem readS_end  (S : St w mean mg mb base) (B : Below A base outer s.heap) (Rm : Room A 6) (H : Has base outer s.heap [(u, instObj 142 du), (du, unitD w ui f (.int p tp)), (f, instObj 100 df), (df, fileD w fi "SEQUENTIAL" rc nb), (rc, listOf xs.toArray rn)]) (D : Dist [(u, instObj 142 du), (du, unitD w ui f (.int p tp)), (f, instObj 100 df), (df, fileD w fi "SEQUENTIAL" rc nb), (rc, listOf xs.toArray rn)]) (hz : xs.length ≤ 20) (hp : (xs.length : Int) = p)
    (kx : ∀ h' tk e tz, Step (fs outer) [du] s.heap h' → h'.get? du = some (unitD w ui f (.int (p + 1) tz)) → Flew w s.heap h' e 70 (-1) → R (.error (.ref e)) { s with heap := h', toks := tk }) :
    codeAny (model prog w) A (.call (.ref 230) ⟨[.ref u], []⟩) R s :=
  readS_end_s.2 (fun prog w s base outer mean mg mb R u du f df rc nb ui fi p tp xs rn dp gd un g L' h₁ => hk_ax (P := readS_end_q) _ readS_end_k (((((prog, w), (s, base)), ((outer, mean), mg)), (((mb, R), (u, du)), ((f, df), rc))), ((((nb, ui), (fi, p)), ((tp, xs), rn)), (((dp, gd), un), ((g, L'), h₁))))) A prog w s base outer mean mg mb R u du f df rc nb ui fi p tp xs rn S B Rm H D hz hp kx
theorem readS_ok {v : Value} (S : St w mean mg mb base) (B : Below A base outer s.heap) (Rm : Room A 5) (H : Has base outer s.heap [(u, instObj 142 du), (du, unitD w ui f (.int p tp)), (f, instObj 100 df), (df, fileD w fi "SEQUENTIAL" rc nb), (rc, listOf xs.toArray rn)]) (D : Dist [(u, instObj 142 du), (du, unitD w ui f (.int p tp)), (f, instObj 100 df), (df, fileD w fi "SEQUENTIAL" rc nb), (rc, listOf xs.toArray rn)]) (hz : xs.length ≤ 20) (h0 : 0 ≤ p) (hp : p < (xs.length : Int)) (hv : xs[p.toNat]? = some v)
    (kk : ∀ h' tk' tz, Step [] [du] s.heap h' → h'.get? du = some (unitD w ui f (.int (p + 1) tz)) → R (.ok (.ret v)) { s with heap := h', toks := tk' }) :
    codeAny (model prog w) A (.call (.ref 230) ⟨[.ref u], []⟩) R s := by
  have hx : xs.toArray.size = xs.length := rfl
  obtain ⟨ha, dp, fr, gd, un⟩ := A
  obtain rfl : ha = none := Rm.han
  obtain rfl : fr = some outer := B.stack
  refine' enter [(u, instObj 142 du), (du, unitD w ui f (.int p tp)), (f, instObj 100 df), (df, fileD w fi "SEQUENTIAL" rc nb), (rc, listOf xs.toArray rn)] S B Rm.d H ?ho ?hcd ?hbind ?hloc ?h ?hco ?hgen ?hk ?hcell
  walk_at "my_enter"
  intro g L' h₁ F N B' X T hold hg hL
  have T0 : KtsTurn (fs outer) g g := KtsTurn.refl
  obtain ⟨D0, D1, D2, D3, D4, _⟩ := D
  dsimp only
  try k_fold
  k_steps
  refine kk _ _ _ (step_cut (end0 hold (by k_asm)) H ?_) (News.get (by k_asm) (by k_mem))
  walk_at "my_ro"
noncomputable def cutS_s : (Rq : Program → World → Shared → Heap → List Env → (ExcName → Option Value) → (Str → Option Value) → (Str → Option Value) → (Result → Shared → Prop) → Addr → Addr → Addr → Addr → Addr → Addr → UI → FI → Int → Tok → List Value → Nat → Nat → Option (List Code) → Nat → Heap → Addr → Heap → Prop) ×' ((∀ (prog : Program) (w : World) (s : Shared) (base : Heap) (outer : List Env) (mean : ExcName → Option Value) (mg : Str → Option Value) (mb : Str → Option Value) (R : Result → Shared → Prop) (u : Addr) (du : Addr) (f : Addr) (df : Addr) (rc : Addr) (nb : Addr) (ui : UI) (fi : FI) (p : Int) (tp : Tok) (xs : List Value) (rn : Nat) (dp : Nat) (gd : Option (List Code)) (un : Nat) (g : Heap) (L' : Addr) (h₁ : Heap), Rq prog w s base outer mean mg mb R u du f df rc nb ui fi p tp xs rn dp gd un g L' h₁) → ∀ (A : Around) (prog : Program) (w : World) (s : Shared) (base : Heap) (outer : List Env) (mean : ExcName → Option Value) (mg : Str → Option Value) (mb : Str → Option Value) (R : Result → Shared → Prop) (u : Addr) (du : Addr) (f : Addr) (df : Addr) (rc : Addr) (nb : Addr) (ui : UI) (fi : FI) (p : Int) (tp : Tok) (xs : List Value) (rn : Nat) (S : St w mean mg mb base) (B : Below A base outer s.heap) (Rm : Room A 5) (H : Has base outer s.heap [(u, instObj 142 du), (du, unitD w ui f (.int p tp)), (f, instObj 100 df), (df, fileD w fi "SEQUENTIAL" rc nb), (rc, listOf xs.toArray rn)]) (D : Dist [(u, instObj 142 du), (du, unitD w ui f (.int p tp)), (f, instObj 100 df), (df, fileD w fi "SEQUENTIAL" rc nb), (rc, listOf xs.toArray rn)]) (hz : xs.length ≤ 20) (h0 : 0 ≤ p) (hp : p ≤ (xs.length : Int)) (kk : ∀ h' tk' cap, Step [] [rc] s.heap h' → h'.get? rc = some (listOf (xs.take p.toNat).toArray cap) → R (.ok (.ret .none)) { s with heap := h', toks := tk' }), codeAny (model prog w) A (.call (.ref 237) ⟨[.ref u], []⟩) R s) := by
  refine ⟨?Rq, fun kHq A prog w s base outer mean mg mb R u du f df rc nb ui fi p tp xs rn S B Rm H D hz h0 hp kk => ?pfq⟩
  case pfq =>
    have hx : xs.toArray.size = xs.length := rfl
    obtain ⟨ha, dp, fr, gd, un⟩ := A
    obtain rfl : ha = none := Rm.han
    obtain rfl : fr = some outer := B.stack
    refine' enter [(u, instObj 142 du), (du, unitD w ui f (.int p tp)), (f, instObj 100 df), (df, fileD w fi "SEQUENTIAL" rc nb), (rc, listOf xs.toArray rn)] S B Rm.d H ?ho ?hcd ?hbind ?hloc ?h ?hco ?hgen ?hk ?hcell
    walk_at "my_enter"
    intro g L' h₁ F N B' X T hold hg hL
    have T0 : KtsTurn (fs outer) g g := KtsTurn.refl
    obtain ⟨D0, D1, D2, D3, D4, _⟩ := D
    revert D4; revert D3; revert D2; revert D1; revert D0; revert T0; revert hL; revert hg; revert hold; revert T; revert X; revert B'; revert N; revert F; revert hx; revert kk; revert hp; revert h0; revert hz; revert H; revert Rm; revert B; revert S
    exact kHq prog w s base outer mean mg mb R u du f df rc nb ui fi p tp xs rn dp gd un g L' h₁
noncomputable def cutS_q (x : (((((Program × World) × (Shared × Heap)) × ((List Env × (ExcName → Option Value)) × (Str → Option Value))) × ((((Str → Option Value) × (Result → Shared → Prop)) × (Addr × Addr)) × ((Addr × Addr) × Addr))) × ((((Addr × UI) × (FI × Int)) × ((Tok × List Value) × Nat)) × (((Nat × Option (List Code)) × Nat) × ((Heap × Addr) × Heap))))) : Prop := cutS_s.1 x.1.1.1.1.1 x.1.1.1.1.2 x.1.1.1.2.1 x.1.1.1.2.2 x.1.1.2.1.1 x.1.1.2.1.2 x.1.1.2.2 x.1.2.1.1.1 x.1.2.1.1.2 x.1.2.1.2.1 x.1.2.1.2.2 x.1.2.2.1.1 x.1.2.2.1.2 x.1.2.2.2 x.2.1.1.1.1 x.2.1.1.1.2 x.2.1.1.2.1 x.2.1.1.2.2 x.2.1.2.1.1 x.2.1.2.1.2 x.2.1.2.2 x.2.2.1.1.1 x.2.2.1.1.2 x.2.2.1.2 x.2.2.2.1.1 x.2.2.2.1.2 x.2.2.2.2
noncomputable def cutS_c := @Classical.epsilon _ ⟨(((((PySem.Challenge.pw_sa0211_01, aWorld 1), ({}, {})), (([], fun _ => none), fun _ => none)), (((fun _ => none, fun _ _ => True), (0, 0)), ((0, 0), 0))), ((((0, ⟨0, 0, 0, 0, .none, .none⟩), (⟨0, 0, 0, 0, 0, 0, 0, 0, 0, 0, Str.ofString "", Str.ofString "", 0⟩, 0)), ((0, []), 0)), (((0, none), 0), (({}, 0), {}))))⟩ fun x => ¬ cutS_q x
theorem cutS_k : cutS_q cutS_c := by
  refine (?fq : ∀ (prog : Program) (w : World) (s : Shared) (base : Heap) (outer : List Env) (mean : ExcName → Option Value) (mg : Str → Option Value) (mb : Str → Option Value) (R : Result → Shared → Prop) (u : Addr) (du : Addr) (f : Addr) (df : Addr) (rc : Addr) (nb : Addr) (ui : UI) (fi : FI) (p : Int) (tp : Tok) (xs : List Value) (rn : Nat) (dp : Nat) (gd : Option (List Code)) (un : Nat) (g : Heap) (L' : Addr) (h₁ : Heap), cutS_s.1 prog w s base outer mean mg mb R u du f df rc nb ui fi p tp xs rn dp gd un g L' h₁) _ _ _ _ _ _ _ _ _ _ _ _ _ _ _ _ _ _ _ _ _ _ _ _ _ _ _ 
  intro prog w s base outer mean mg mb R u du f df rc nb ui fi p tp xs rn dp gd un g L' h₁ S B Rm H hz h0 hp kk hx F N B' X T hold hg hL T0 D0 D1 D2 D3 D4
  dsimp only
  try k_fold
  k_steps
  (rename Fr _ _ _ _ => F1)
  (rename News _ _ _ _ => N1)
  unfold Halt
  refine While_inv2 (fun n m₁ news₁ => ∃ k cap, n = k ∧ p ≤ k ∧ k ≤ xs.length ∧ m₁ = _ ∧ news₁ = [(u, instObj 142 du), (du, unitD w ui f (.int p tp)), (f, instObj 100 df), (df, fileD w fi "SEQUENTIAL" rc nb), (rc, listOf (xs.take k).toArray cap)]) F1 N1 ⟨xs.length, rn, rfl, hp, Nat.le_refl _, rfl, by rw [List.take_length]⟩ ?_
  clear F1 N1
  rintro n m₁ news₁ h₂ tk₂ F2 N2 ⟨k, cap, rfl, hk1, hk2, rfl, rfl⟩
  have hx : (xs.take n).toArray.size = n := by simp; omega
  try k_fold
  by_cases hlt : p < (n : Int)
  · obtain ⟨j, rfl⟩ : ∃ j, n = j + 1 := ⟨n - 1, by omega⟩
    have hpop : xs.take (j + 1) = xs.take j ++ [xs[j]] := by rw [List.take_add_one, List.getElem?_eq_getElem]; rfl
    have hl : (xs.take (j + 1)).length ≤ 20 := by simp; omega
    k_steps
    exact ⟨_, _, _, _, j, rfl, by k_asm, by k_asm, Nat.lt_succ_self _, j, _, rfl, by omega, by omega, rfl, rfl⟩
  · have hpn : n = p.toNat := by omega
    k_steps
    refine kk _ _ cap (step_cut (end0 hold (by k_asm)) H ?_) (hpn ▸ News.get (by k_asm) (by k_mem))
    walk_at "my_ro"
theorem cutS  (S : St w mean mg mb base) (B : Below A base outer s.heap) (Rm : Room A 5) (H : Has base outer s.heap [(u, instObj 142 du), (du, unitD w ui f (.int p tp)), (f, instObj 100 df), (df, fileD w fi "SEQUENTIAL" rc nb), (rc, listOf xs.toArray rn)]) (D : Dist [(u, instObj 142 du), (du, unitD w ui f (.int p tp)), (f, instObj 100 df), (df, fileD w fi "SEQUENTIAL" rc nb), (rc, listOf xs.toArray rn)]) (hz : xs.length ≤ 20) (h0 : 0 ≤ p) (hp : p ≤ (xs.length : Int))
    (kk : ∀ h' tk' cap, Step [] [rc] s.heap h' → h'.get? rc = some (listOf (xs.take p.toNat).toArray cap) → R (.ok (.ret .none)) { s with heap := h', toks := tk' }) :
    codeAny (model prog w) A (.call (.ref 237) ⟨[.ref u], []⟩) R s :=
  cutS_s.2 (fun prog w s base outer mean mg mb R u du f df rc nb ui fi p tp xs rn dp gd un g L' h₁ => hk_ax (P := cutS_q) _ cutS_k (((((prog, w), (s, base)), ((outer, mean), mg)), (((mb, R), (u, du)), ((f, df), rc))), ((((nb, ui), (fi, p)), ((tp, xs), rn)), (((dp, gd), un), ((g, L'), h₁))))) A prog w s base outer mean mg mb R u du f df rc nb ui fi p tp xs rn S B Rm H D hz h0 hp kk
theorem cutS_far (S : St w mean mg mb base) (B : Below A base outer s.heap) (Rm : Room A 5) (H : Has base outer s.heap [(u, instObj 142 du), (du, unitD w ui f (.int p tp)), (f, instObj 100 df), (df, fileD w fi "SEQUENTIAL" rc nb), (rc, listOf xs.toArray rn)]) (D : Dist [(u, instObj 142 du), (du, unitD w ui f (.int p tp)), (f, instObj 100 df), (df, fileD w fi "SEQUENTIAL" rc nb), (rc, listOf xs.toArray rn)]) (hz : xs.length ≤ 20) (hp : (xs.length : Int) < p)
    (kx : ∀ h' tk e, Step (fs outer) [] s.heap h' → Flew w s.heap h' e 51 17 → R (.error (.ref e)) { s with heap := h', toks := tk }) :
    codeAny (model prog w) A (.call (.ref 237) ⟨[.ref u], []⟩) R s := by
  have hx : xs.toArray.size = xs.length := rfl
  obtain ⟨ha, dp, fr, gd, un⟩ := A
  obtain rfl : ha = none := Rm.han
  obtain rfl : fr = some outer := B.stack
  refine' enter [(u, instObj 142 du), (du, unitD w ui f (.int p tp)), (f, instObj 100 df), (df, fileD w fi "SEQUENTIAL" rc nb), (rc, listOf xs.toArray rn)] S B Rm.d H ?ho ?hcd ?hbind ?hloc ?h ?hco ?hgen ?hk ?hcell
  walk_at "my_enter"
  intro g L' h₁ F N B' X T hold hg hL
  have T0 : KtsTurn (fs outer) g g := KtsTurn.refl
  obtain ⟨D0, D1, D2, D3, D4, _⟩ := D
  dsimp only
  try k_fold
  k_steps
  refine leave_first_K B' (by k_asm) (by k_asm) (by k_mem) (by k_mem) (by k_ne) T0 hold ?_ fun h' x1 x2 x3 => kx h' _ _ (step_cut x1 H ?_) x3
  · walk_at "my_bs"
  · repeat' (first | exact List.forall_mem_nil _ | refine List.forall_mem_cons.mpr ⟨fun _ => x2 _ (by k_mem) (by k_ne), ?_⟩)
theorem readS_acc {pv : Value} (S : St w mean mg mb base) (B : Below A base outer s.heap) (Rm : Room A 7) (H : Has base outer s.heap [(u, instObj 142 du), (du, unitD w ui f pv), (f, instObj 100 df), (df, fileD w fi "DIRECT" rc nb)])
    (kx : ∀ h' tk e, Step (fs outer) [] s.heap h' → Flew w s.heap h' e 51 16 → R (.error (.ref e)) { s with heap := h', toks := tk }) :
    codeAny (model prog w) A (.call (.ref 230) ⟨[.ref u], []⟩) R s := by
  obtain ⟨ha, dp, fr, gd, un⟩ := A
  obtain rfl : ha = none := Rm.han
  obtain rfl : fr = some outer := B.stack
  refine' enter [(u, instObj 142 du), (du, unitD w ui f pv), (f, instObj 100 df), (df, fileD w fi "DIRECT" rc nb)] S B Rm.d H ?ho ?hcd ?hbind ?hloc ?h ?hco ?hgen ?hk ?hcell
  walk_at "my_enter"
  intro g L' h₁ F N B' X T hold hg hL
  have T0 : KtsTurn (fs outer) g g := KtsTurn.refl
  skip
  dsimp only
  try k_fold
  k_steps
  refine leave_next_K B' (by k_asm) (by k_asm) (by assumption) (by assumption) T0 hold (by walk_at "my_bs0") fun h' x1 x2 x3 => kx h' _ _ (step_cut x1 H fun p hp _ => x2 p hp) x3
theorem writeD_acc {k : Int} {tk : Tok} {v : Value} (S : St w mean mg mb base) (B : Below A base outer s.heap) (Rm : Room A 7) (H : Has base outer s.heap [(u, instObj 142 du), (du, unitD w ui f (.int p tp)), (f, instObj 100 df), (df, fileD w fi "SEQUENTIAL" rc nb)])
    (kx : ∀ h' tk e, Step (fs outer) [] s.heap h' → Flew w s.heap h' e 51 16 → R (.error (.ref e)) { s with heap := h', toks := tk }) :
    codeAny (model prog w) A (.call (.ref 286) ⟨[.ref u, .int k tk, v], []⟩) R s := by
  obtain ⟨ha, dp, fr, gd, un⟩ := A
  obtain rfl : ha = none := Rm.han
  obtain rfl : fr = some outer := B.stack
  refine' enter [(u, instObj 142 du), (du, unitD w ui f (.int p tp)), (f, instObj 100 df), (df, fileD w fi "SEQUENTIAL" rc nb)] S B Rm.d H ?ho ?hcd ?hbind ?hloc ?h ?hco ?hgen ?hk ?hcell
  walk_at "my_enter"
  intro g L' h₁ F N B' X T hold hg hL
  have T0 : KtsTurn (fs outer) g g := KtsTurn.refl
  skip
  dsimp only
  try k_fold
  k_steps
  refine leave_next_K B' (by k_asm) (by k_asm) (by assumption) (by assumption) T0 hold (by walk_at "my_bs0") fun h' x1 x2 x3 => kx h' _ _ (step_cut x1 H fun p hp _ => x2 p hp) x3
end
section
variable {prog : Program} {w : World} {A : Around} {s : Shared} {base g : Heap} {outer : List Env} {mean : ExcName → Option Value} {mg mb : Str → Option Value}
  {L a : Addr} {m : Str → Option Value} {news : List (Addr × Obj)} {cn : Str} {cs : Scope} {ccd : Value} {Q E : Value → Shared → Prop} {u du f df rc nb : Addr} {ui : UI} {fi : FI} {p : Int} {tp : Tok} {xs : List Value} {rn : Nat}
theorem cutS_K {hpS : Heap} {gnS : Array GenState} {drS : Drawn} {tkS : Nat} {osS : OsState} (S : St w mean mg mb base) (B : Below A base outer g) (F : Fr g L hpS m) (N : News g L hpS news) (Rm : Room A 6) {gg : Obj → List (Addr × Obj)}
    (h1 : ∀ q ∈ [(u, instObj 142 du), (du, unitD w ui f (.int p tp)), (f, instObj 100 df), (df, fileD w fi "SEQUENTIAL" rc nb), (rc, listOf xs.toArray rn)], q ∈ news) (D : Dist [(u, instObj 142 du), (du, unitD w ui f (.int p tp)), (f, instObj 100 df), (df, fileD w fi "SEQUENTIAL" rc nb), (rc, listOf xs.toArray rn)]) (hz : xs.length ≤ 20) (h0 : 0 ≤ p) (hp : p ≤ (xs.length : Int)) (U : UpdF rc (listOf xs.toArray rn) news gg)
    (k : ∀ h' tk cap, Fr g L h' m → News g L h' (gg (listOf (xs.take p.toNat).toArray cap)) → Q .none ⟨h', gnS, drS, tk, osS⟩) (hk : cs.kind = .function := by rfl) :
    wpAny (model prog w) (A.deeper (envOf cn cs L a ccd)) (call (.ref 237) [.ref u]) Q E ⟨hpS, gnS, drS, tkS, osS⟩ := by
  refine wpAny_call (cutS (p := p) (xs := xs) (rn := rn) (f := f) (df := df) (rc := rc) (nb := nb) (ui := ui) (fi := fi) (du := du) (tp := tp) S (B.push F hk) (Rm.deeper (by decide)) (has_of B N h1) D hz h0 hp fun h' tk cap x1 x2 => ?_)
  obtain ⟨F', N'⟩ := use0 F N U x1 x2
  exact k h' tk cap F' N'
theorem cutS_far_K {hpS : Heap} {gnS : Array GenState} {drS : Drawn} {tkS : Nat} {osS : OsState} (S : St w mean mg mb base) (B : Below A base outer g) (F : Fr g L hpS m) (N : News g L hpS news) (Rm : Room A 6)
    (h1 : ∀ q ∈ [(u, instObj 142 du), (du, unitD w ui f (.int p tp)), (f, instObj 100 df), (df, fileD w fi "SEQUENTIAL" rc nb), (rc, listOf xs.toArray rn)], q ∈ news) (D : Dist [(u, instObj 142 du), (du, unitD w ui f (.int p tp)), (f, instObj 100 df), (df, fileD w fi "SEQUENTIAL" rc nb), (rc, listOf xs.toArray rn)]) (hz : xs.length ≤ 20) (hp : (xs.length : Int) < p)
    (k : ∀ h' tk e, Step (L :: fs outer) [] hpS h' → Flew w hpS h' e 51 17 → E (.ref e) ⟨h', gnS, drS, tk, osS⟩) (hk : cs.kind = .function := by rfl) :
    wpAny (model prog w) (A.deeper (envOf cn cs L a ccd)) (call (.ref 237) [.ref u]) Q E ⟨hpS, gnS, drS, tkS, osS⟩ := by
  refine wpAny_call (cutS_far (p := p) (xs := xs) (rn := rn) (f := f) (df := df) (rc := rc) (nb := nb) (ui := ui) (fi := fi) (du := du) (tp := tp) S (B.push F hk) (Rm.deeper (by decide)) (has_of B N h1) D hz hp fun h' tk e x1 x2 => ?_)
  exact k h' tk e x1 x2
end
theorem line_M11_3 : True := by
  k_with "my_mems" => (first | exact List.forall_mem_nil _ | (refine List.forall_mem_cons.mpr ⟨?aZ, ?bZ⟩; (case aZ => k_mem); (case bZ => walk_at "my_mems")))
  k_with "call ref" => ((k_here; (with_reducible show wpAny _ _ (PySem.call (Value.ref 237) [Value.ref _]) _ _ _); k_dflt (first
  | (refine' cutS_K ?SZ ?BZ ?FZ ?NZ ?RZ ?h1Z ?DZ ?zZ ?p0Z ?p1Z ?UZ ?_; (case SZ => assumption); (case BZ => assumption); (case FZ => k_asm); (case NZ => k_asm); (case RZ => exact Room.less (by assumption) (by decide)); (case DZ => assumption); (case zZ => assumption); (case p0Z => assumption); (case p1Z => assumption); (case h1Z => walk_at "my_mems"); (case UZ => k_updF); k_whole; intro h' tk' cap' F' N'; (try dsimp only at N'); (try k_sweep))
  | (refine' cutS_far_K ?SZ ?BZ ?FZ ?NZ ?RZ ?h1Z ?DZ ?zZ ?p1Z ?_; (case SZ => assumption); (case BZ => assumption); (case FZ => k_asm); (case NZ => k_asm); (case RZ => exact Room.less (by assumption) (by decide)); (case DZ => assumption); (case zZ => assumption); (case p1Z => assumption); (case h1Z => walk_at "my_mems"); k_whole; intro h' tk' e' x1' x2'))))
  trivial
section
variable {prog : Program} {w : World} {A : Around} {s : Shared} {base : Heap} {outer : List Env} {mean : ExcName → Option Value} {mg mb : Str → Option Value}
  {R : Result → Shared → Prop} {u du f df rc nb : Addr} {ui : UI} {fi : FI} {p : Int} {tp : Tok} {xs : List Value} {rn : Nat}
theorem writeS_far {v : Value} (S : St w mean mg mb base) (B : Below A base outer s.heap) (Rm : Room A 6) (H : Has base outer s.heap [(u, instObj 142 du), (du, unitD w ui f (.int p tp)), (f, instObj 100 df), (df, fileD w fi "SEQUENTIAL" rc nb), (rc, listOf xs.toArray rn)]) (D : Dist [(u, instObj 142 du), (du, unitD w ui f (.int p tp)), (f, instObj 100 df), (df, fileD w fi "SEQUENTIAL" rc nb), (rc, listOf xs.toArray rn)]) (hz : xs.length ≤ 20) (hp : (xs.length : Int) < p)
    (kx : ∀ h' tk e, Step (fs outer) [] s.heap h' → Flew w s.heap h' e 51 17 → R (.error (.ref e)) { s with heap := h', toks := tk }) :
    codeAny (model prog w) A (.call (.ref 244) ⟨[.ref u, v], []⟩) R s := by
  have hx : xs.toArray.size = xs.length := rfl
  have D' := D
  obtain ⟨ha, dp, fr, gd, un⟩ := A
  obtain rfl : ha = none := Rm.han
  obtain rfl : fr = some outer := B.stack
  refine' enter [(u, instObj 142 du), (du, unitD w ui f (.int p tp)), (f, instObj 100 df), (df, fileD w fi "SEQUENTIAL" rc nb), (rc, listOf xs.toArray rn)] S B Rm.d H ?ho ?hcd ?hbind ?hloc ?h ?hco ?hgen ?hk ?hcell
  walk_at "my_enter"
  intro g L' h₁ F N B' X T hold hg hL
  have T0 : KtsTurn (fs outer) g g := KtsTurn.refl
  obtain ⟨D0, D1, D2, D3, D4, _⟩ := D
  dsimp only
  try k_fold
  k_steps
  refine leave_next_K B' (by k_asm) (by k_asm) (by assumption) (by assumption) T0 hold (by walk_at "my_bs0") fun h' x1 x2 x3 => kx h' _ _ (step_cut x1 H fun p hp _ => x2 p hp) x3
theorem writeS_ok {v : Value} (S : St w mean mg mb base) (B : Below A base outer s.heap) (Rm : Room A 6) (H : Has base outer s.heap [(u, instObj 142 du), (du, unitD w ui f (.int p tp)), (f, instObj 100 df), (df, fileD w fi "SEQUENTIAL" rc nb), (rc, listOf xs.toArray rn)]) (D : Dist [(u, instObj 142 du), (du, unitD w ui f (.int p tp)), (f, instObj 100 df), (df, fileD w fi "SEQUENTIAL" rc nb), (rc, listOf xs.toArray rn)]) (hz : xs.length ≤ 20) (h0 : 0 ≤ p) (hp : p ≤ (xs.length : Int))
    (kk : ∀ h' tk' cap tz, Step [] [du, rc] s.heap h' → h'.get? du = some (unitD w ui f (.int (p + 1) tz)) → h'.get? rc = some (listOf (xs.take p.toNat ++ [v]).toArray cap) → R (.ok (.ret .none)) { s with heap := h', toks := tk' }) :
    codeAny (model prog w) A (.call (.ref 244) ⟨[.ref u, v], []⟩) R s := by
  have hx : xs.toArray.size = xs.length := rfl
  have D' := D
  obtain ⟨ha, dp, fr, gd, un⟩ := A
  obtain rfl : ha = none := Rm.han
  obtain rfl : fr = some outer := B.stack
  refine' enter [(u, instObj 142 du), (du, unitD w ui f (.int p tp)), (f, instObj 100 df), (df, fileD w fi "SEQUENTIAL" rc nb), (rc, listOf xs.toArray rn)] S B Rm.d H ?ho ?hcd ?hbind ?hloc ?h ?hco ?hgen ?hk ?hcell
  walk_at "my_enter"
  intro g L' h₁ F N B' X T hold hg hL
  have T0 : KtsTurn (fs outer) g g := KtsTurn.refl
  obtain ⟨D0, D1, D2, D3, D4, _⟩ := D
  dsimp only
  try k_fold
  k_steps
  (rename News _ _ _ _ => N9)
  (try simp only [List.push_toArray] at N9)
  refine kk _ _ _ _ (step_cut (end0 hold (by k_asm)) H ?_) (News.get (by k_asm) (by k_mem)) (News.get (by k_asm) (by k_mem))
  walk_at "my_ro"
theorem endS_ok  (S : St w mean mg mb base) (B : Below A base outer s.heap) (Rm : Room A 6) (H : Has base outer s.heap [(u, instObj 142 du), (du, unitD w ui f (.int p tp)), (f, instObj 100 df), (df, fileD w fi "SEQUENTIAL" rc nb), (rc, listOf xs.toArray rn)]) (D : Dist [(u, instObj 142 du), (du, unitD w ui f (.int p tp)), (f, instObj 100 df), (df, fileD w fi "SEQUENTIAL" rc nb), (rc, listOf xs.toArray rn)]) (hz : xs.length ≤ 20) (h0 : 0 ≤ p) (hp : p ≤ (xs.length : Int))
    (kk : ∀ h' tk' cap tz, Step [] [du, rc] s.heap h' → h'.get? du = some (unitD w ui f (.int (p + 1) tz)) → h'.get? rc = some (listOf (xs.take p.toNat).toArray cap) → R (.ok (.ret .none)) { s with heap := h', toks := tk' }) :
    codeAny (model prog w) A (.call (.ref 251) ⟨[.ref u], []⟩) R s := by
  have hx : xs.toArray.size = xs.length := rfl
  have D' := D
  obtain ⟨ha, dp, fr, gd, un⟩ := A
  obtain rfl : ha = none := Rm.han
  obtain rfl : fr = some outer := B.stack
  refine' enter [(u, instObj 142 du), (du, unitD w ui f (.int p tp)), (f, instObj 100 df), (df, fileD w fi "SEQUENTIAL" rc nb), (rc, listOf xs.toArray rn)] S B Rm.d H ?ho ?hcd ?hbind ?hloc ?h ?hco ?hgen ?hk ?hcell
  walk_at "my_enter"
  intro g L' h₁ F N B' X T hold hg hL
  have T0 : KtsTurn (fs outer) g g := KtsTurn.refl
  obtain ⟨D0, D1, D2, D3, D4, _⟩ := D
  dsimp only
  try k_fold
  k_steps
  (rename News _ _ _ _ => N9)
  (try simp only [List.push_toArray] at N9)
  refine kk _ _ _ _ (step_cut (end0 hold (by k_asm)) H ?_) (News.get (by k_asm) (by k_mem)) (News.get (by k_asm) (by k_mem))
  walk_at "my_ro"
end
end
section
open PySem PySem.W PyProof.Rows PySem.Spec PySem.Calls
section
variable {prog : Program} {w : World} {A : Around} {K : Frag} {C e L : Addr} {s : Shared} {E : Value → Shared → Prop} {cd : ClassData} {ox : Obj} {od : Option Obj} {name : Str} {expr : Bool} {v : Value} {Q : Value → Shared → Prop}
theorem getx (X : K.In s.heap) (I : InstAt s.heap e ox C od) (hga : findIn K (.ref C) "__getattribute__" = some (some (.builtin "BaseException.__getattribute__"))) (hgh : findIn K (.ref C) "__getattr__" = some none)
    (hm : mroIn K C (.type "BaseException") = some true) (hf : findObj K C od name = some (.value v)) (hh : handedIn v = true) (h : Q v { s with toks := s.toks + 1 }) : wpAny (model prog w) A (getAttr (.ref e) name expr) Q E s := by
  obtain ⟨hp, g, d, t, os⟩ := s
  have L0 := I.type (M := model prog w)
  have L1 := looks_findIn (M := model prog w) X hga
  have L2 := looks_findIn (M := model prog w) X hgh
  have hb : (onTheHeap (Value.ref C) && Value.builtin "BaseException.__getattribute__" == Value.builtin "object.__getattribute__") = false := by
    rw [show (Value.builtin "BaseException.__getattribute__" == Value.builtin "object.__getattribute__") = false from by decide +kernel, Bool.and_false]
  unfold getAttr getAttrBy
  refine wpAny_bind (wpAny_mkText (wpAny_holding (wpAny_bind (L0.at (wpAny_bind (L1.at ?_))))))
  dsimp only
  rw [hb, if_neg (by decide)]
  unfold getAttrByItsOwn hookBefore
  rw [show onTheHeap (Value.ref C) = true from rfl, if_pos rfl]
  refine wpAny_bind (L2.at (wpAny_bind (wpAny_attempt (wpAny_holding ?_))))
  unfold callGetattribute
  rw [show (expr && onTheHeap (Value.builtin "BaseException.__getattribute__")) = false from Bool.and_false _, if_neg (by decide)]
  unfold boundAndCalled
  rw [PySem.F.attr_Exception.ga.bind]
  refine wpAny_bind (wpAny_pure ?_)
  show wpAny _ _ (call (.builtin "BaseException.__getattribute__") [.ref e, .str name t]) _ _ _
  refine wpAny_call (codeAny_call_builtin PySem.F.attr_Exception.ga.plain PySem.F.entry_bexc_ga ?_)
  refine @check_slot (model prog w) _ _ ⟨hp, g, d, t + 1, os⟩ "BaseException.__getattribute__" "BaseException" "__getattribute__" (.ref e) [.str name t] [] _ (by decide +kernel) (by decide +kernel) (L0.andThen (looks_mroIn X hm)) (PySem.F.args_bexc_ga _ _) ?_
  have L3 := looks_find (M := model prog w) X I hf
  refine wpAny_bind (wpAny_pure (wpAny_bind (wpAny_pure (wpAny_bind (L0.at (wpAny_bind (L3.at ?_)))))))
  refine wpAny_pure ?_
  show wpAny _ _ (handedOut v) _ _ _
  rw [handedOut_of hh]; exact wpAny_pure h
end
section
variable {prog : Program} {w : World} {A : Around} {E : Value → Shared → Prop} {s : Shared} {mean : ExcName → Option Value} {mg mb : Str → Option Value} {base g g₀ s₁ : Heap} {outer : List Env} {L a e C d : Addr} {m : Str → Option Value} {name : Str} {scope : Scope} {cd : Value} {led led' : List (Addr × Obj)} {nb : List Addr} {c : Int}
theorem caughtA {P : Unit → Shared → Prop} (B : Below A base outer g) (F : Fr g L s₁ m) (N : News g L s₁ led) (fl : Flew w s₁ s.heap e C c) (x : Step (L :: fs outer) nb s₁ s.heap) (hnb : ∀ b ∈ nb, (∃ o, (b, o) ∈ led) ∧ ∃ o, s.heap.get? b = some o)
    (hled : ∀ q ∈ led', s.heap.get? q.1 = some q.2 ∧ ∃ o, (q.1, o) ∈ led)
    (k : ∀ h' g' d T tx ty tz v, KtsTurn (fs outer) g g' → Fr g' L h' m → News g' L h' led' → Below A base outer g' → Tr h' e C d T .none →
      h'.get? d = some (dictOf [⟨PyData.keyHash w.params "text", .str "text" tx, v⟩, ⟨PyData.keyHash w.params "code", .str "code" ty, .int c tz⟩] 2) →
      g'.get? e = none → g'.get? d = none → g'.get? T = none → (∀ q ∈ led', q.1 ≠ T ∧ q.1 ≠ e ∧ q.1 ≠ d) → L ≠ T → L ≠ e → L ≠ d → e ≠ d → T ≠ d → P () { s with heap := h' })
    (hk : scope.kind = .function := by rfl) :
    wpAny (model prog w) (A.deeper (envOf name scope L a cd)) (noteFrame (.ref e) (envOf name scope L a cd)) (fun _ s₂ => wpAny (model prog w) (A.deeper (envOf name scope L a cd)) (setFlight (.ref e) none) P E s₂) E s := by
  obtain ⟨d, T₀, tx, ty, tz, v, tr, hd, fe, fd, fT, ed, Td⟩ := fl
  have B₁ := B.push (name := name) (scope := scope) (a := a) (cd := cd) F hk
  obtain ⟨oL, _, _, hoL, _⟩ := F.ns
  have Lf : ∀ {b}, s₁.get? b = none → L ≠ b := fun hb q => by rw [← q, hoL] at hb; cases hb
  have ledf : ∀ {b}, s₁.get? b = none → ∀ q ∈ led', q.1 ≠ b := fun hb q hq z => by
    obtain ⟨_, o, ho⟩ := hled q hq
    rw [← z, (N _ ho).1] at hb; cases hb
  have outf : ∀ {b o}, s₁.get? b = none ∨ (b, o) ∈ led → b ∉ fs outer := fun hb q => by
    obtain ⟨_, o', ho', _⟩ := B.frames.mem q
    rcases hb with hb | hb
    · rw [F.keep _ o' ho'] at hb; cases hb
    · rw [(N _ hb).2.2] at ho'; cases ho'
  have gf : ∀ {b}, s₁.get? b = none → g.get? b = none := fun {b} hb => by
    cases q : g.get? b with
    | none => rfl
    | some o => rw [F.keep b o q] at hb; cases hb
  have nbf : ∀ f ∈ L :: fs outer, f ∉ nb := fun f hf hm => by
    obtain ⟨⟨o, ho⟩, _⟩ := hnb f hm
    rcases List.mem_cons.mp hf with rfl | hf
    · exact (N _ ho).2.1 rfl
    · exact outf (.inr ho) hf
  have fr : s.heap.FunFrames base (envOf name scope L a cd :: outer) := frames_step (fl := L :: fs outer) x B₁.frames nbf
  refine note_on B₁.stack fr rfl tr fun h₂ T x1 x2 x3 => unflag x2 fun h₃ y1 y2 => ?_
  have x1' : Step (L :: fs outer) [e, T₀] s.heap h₂ := x1
  have T₁ : s₁.get? T = none := by
    cases q : s₁.get? T with
    | none => rfl
    | some o =>
      by_cases hb : T ∈ nb
      · obtain ⟨_, o', ho'⟩ := hnb T hb
        rw [x3] at ho'; cases ho'
      · obtain ⟨_, sl, z⟩ := x T o q hb
        rw [x3] at z; cases z
  have x13 : Step (L :: fs outer) nb s₁ h₃ := (x.cut x1' fun q hq => by
    rcases List.mem_cons.mp hq with rfl | hq
    · exact fe
    · rw [List.mem_singleton.mp hq]; exact fT).cut (y1.mono (fun _ q => nomatch q) fun _ q => q) fun q hq => by rw [List.mem_singleton.mp hq]; exact T₁
  obtain ⟨g', T', F', B', st⟩ := back x13 B F fun b hb => by
    obtain ⟨⟨o, ho⟩, _⟩ := hnb b hb
    exact ⟨(N _ ho).2.2, (N _ ho).2.1⟩
  have up : ∀ b o, s.heap.get? b = some o → b ≠ e → b ≠ T₀ → b ≠ T → b ∉ L :: fs outer → h₃.get? b = some o := fun b o hb h1 h2 h3 h4 => by
    have z := x1'.at hb (fun q => by
      rcases List.mem_cons.mp q with q | q
      · exact h1 q
      · exact h2 (List.mem_singleton.mp q)) h4
    exact y1.at z (fun q => h3 (List.mem_singleton.mp q)) List.not_mem_nil
  have cf : ∀ {b}, s₁.get? b = none → b ∉ L :: fs outer := fun hb q => by
    rcases List.mem_cons.mp q with q | q
    · exact Lf hb q.symm
    · exact outf (o := oL) (.inl hb) q
  have hTd : T ≠ d := fun q => by rw [q, hd] at x3; cases x3
  refine k h₃ g' d T tx ty tz v T' F' (fun q hq => ?_) B' y2 (up d _ hd (Ne.symm ed) (Ne.symm Td) (Ne.symm hTd) (cf fd)) (T'.none_ _ (gf fe)) (T'.none_ _ (gf fd)) (T'.none_ _ (gf T₁)) (fun q hq => ⟨ledf T₁ q hq, ledf fe q hq, ledf fd q hq⟩) (Lf T₁) (Lf fe) (Lf fd) ed hTd
  obtain ⟨h1, o, ho⟩ := hled q hq
  refine ⟨up _ _ h1 (ledf fe q hq) (ledf fT q hq) (ledf T₁ q hq) (fun z => ?_), (N _ ho).2.1, T'.none_ _ (N _ ho).2.2⟩
  rcases List.mem_cons.mp z with z | z
  · exact (N _ ho).2.1 z
  · exact outf (.inr ho) z
theorem Tr.ty {M : Model} {h : Heap} {e C d T : Addr} {fl : Value} (t : Tr h e C d T fl) : Looks M h (typeOf (.ref e)) (.ref C) := by
  obtain ⟨vs, sl, he, _⟩ := t.ex
  exact (Looks.ld he).andThen .now
theorem test1 {K : Frag} {p : Program} {loose : List Str} {c cls : Value} {x : Str} {np : Pos} {b : Bool} {Q : Bool → Shared → Prop} {g : Heap} {a : Addr} (hc : KtsName K x c) (F : Fr g L s.heap m) (X : K.In g) (T : Top p loose mean mg mb g)
    (LT : Looks (model prog w) s.heap (typeOf (.ref e)) cls) (he : exmOne K cls c = some b) (h : Q b s) (hk : scope.kind = .function) (hx : (envOf name scope L a cd).kindOf x = some .globalImplicit) (hd : (x == ("__debug__" : Str)) = false) :
    wpAny (model prog w) A (eval (.Name x np) (envOf name scope L a cd)) (fun c s₁ => wpAny (model prog w) A (excMatches (.ref e) c) Q E s₁) E s :=
  kts_name hc F X (topRead_of T) ((exm_one (X.keeps F.keep) LT he).here h) hk hx hd
theorem pass_my {K : Frag} {p : Program} {loose : List Str} {cl : Value} {x : Str} {np pos : Pos} {nm : Option Str} {body : List Stmt} {rest : List ExceptHandler} {Q : Flow → Shared → Prop} {g : Heap} {a : Addr} (hc : KtsName K x cl) (F : Fr g L s.heap m) (X : K.In g) (T : Top p loose mean mg mb g)
    (LT : Looks (model prog w) s.heap (typeOf (.ref e)) (.ref C)) (he : exmOne K (.ref C) cl = some false) (h : wpAny (model prog w) A (handleBy (.ref e) (envOf name scope L a cd) rest) Q E s) (hk : scope.kind = .function) (hx : (envOf name scope L a cd).kindOf x = some .globalImplicit) (hd : (x == ("__debug__" : Str)) = false) :
    wpAny (model prog w) A (handleBy (.ref e) (envOf name scope L a cd) (.ExceptHandler (some (.Name x np)) nm body pos :: rest)) Q E s :=
  wpAny_handleBy_cons (codeAny_handlers_test (test1 hc F X T LT he h hk hx hd)) (by intro q; cases q)
theorem hit_my {K : Frag} {p : Program} {loose : List Str} {cl : Value} {x : Str} {np pos : Pos} {b₀ : Stmt} {suite : List Stmt} {rest : List ExceptHandler} {Q : Flow → Shared → Prop} {g : Heap} {a T₀ d : Addr} (hc : KtsName K x cl) (F : Fr g L s.heap m) (X : K.In g) (T : Top p loose mean mg mb g)
    (N : News g L s.heap led) (tr : Tr s.heap e C d T₀ .none) (hT : g.get? T₀ = none) (hTL : L ≠ T₀) (hTl : ∀ q ∈ led, q.1 ≠ T₀) (he : exmOne K (.ref C) cl = some true)
    (h : ∀ h', Fr g L h' m → News g L h' led → wpAny (model prog w) (A.mark (some (.ref e))) (execs (b₀ :: suite) (envOf name scope L a cd)) Q E { s with heap := h' })
    (hk : scope.kind = .function) (hx : (envOf name scope L a cd).kindOf x = some .globalImplicit) (hd : (x == ("__debug__" : Str)) = false)
    (hE : PassesOwnAt (model prog w) (A.mark (some (.ref e))) A (envOf name scope L a cd) E := by passes_own) :
    wpAny (model prog w) A (handleBy (.ref e) (envOf name scope L a cd) (.ExceptHandler (some (.Name x np)) none (b₀ :: suite) pos :: rest)) Q E s := by
  refine wpAny_handleBy_cons (codeAny_handlers_test (test1 hc F X T tr.ty he ?_ hk hx hd)) (by intro q; cases q)
  refine codeAny_handlers_suite (unflag tr fun h' y1 y2 => ?_)
  exact wpAny_passesOwnAt hE (h h' (back0 y1 F fun b hb => by rw [List.mem_singleton.mp hb]; exact ⟨hT, Ne.symm hTL⟩) (back0N y1 N fun q hq z => hTl q hq (List.mem_singleton.mp z)))
theorem hitas_my {K : Frag} {p : Program} {loose : List Str} {cl : Value} {x n : Str} {np pos : Pos} {b₀ : Stmt} {suite : List Stmt} {rest : List ExceptHandler} {Q : Flow → Shared → Prop} {g : Heap} {a T₀ d : Addr} (hc : KtsName K x cl) (F : Fr g L s.heap m) (X : K.In g) (T : Top p loose mean mg mb g)
    (N : News g L s.heap led) (tr : Tr s.heap e C d T₀ .none) (hT : g.get? T₀ = none) (hTL : L ≠ T₀) (hTl : ∀ q ∈ led, q.1 ≠ T₀) (heg : g.get? e = none) (heL : L ≠ e) (he : exmOne K (.ref C) cl = some true)
    (h : ∀ h' tk vs sl, Fr g L h' (fun y => if y = n then some (.ref e) else m y) → News g L h' ((e, ⟨.ref C, some d, .fields vs, sl⟩) :: led) → wpAny (model prog w) (A.mark (some (.ref e))) (execs (b₀ :: suite) (envOf name scope L a cd))
        (fun f s₄ => wpAny (model prog w) A (do bindName (envOf name scope L a cd) n .none; unbindBehindTheSuite (envOf name scope L a cd) n pos) (fun _ s₅ => Q f s₅) E s₄)
        (AsSuiteRaised (model prog w) (A.mark (some (.ref e))) (envOf name scope L a cd) n pos (notedBy (model prog w) (A.mark (some (.ref e))) (envOf name scope L a cd) (cameBackBy (model prog w) A (envOf name scope L a cd) E)))
        { s with heap := h', toks := tk })
    (hk : scope.kind = .function) (hx : (envOf name scope L a cd).kindOf x = some .globalImplicit) (hd : (x == ("__debug__" : Str)) = false)
    (hlo : (envOf name scope L a cd).kindOf n = some .local) :
    wpAny (model prog w) A (handleBy (.ref e) (envOf name scope L a cd) (.ExceptHandler (some (.Name x np)) (some n) (b₀ :: suite) pos :: rest)) Q E s := by
  refine wpAny_handleBy_cons (codeAny_handlers_test (test1 hc F X T tr.ty he ?_ hk hx hd)) (by intro q; cases q)
  refine codeAny_handlers_suite_as (unflag tr fun h' y1 y2 => ?_)
  have F' := back0 y1 F fun b hb => by rw [List.mem_singleton.mp hb]; exact ⟨hT, Ne.symm hTL⟩
  have N' := back0N y1 N fun q hq z => hTl q hq (List.mem_singleton.mp z)
  obtain ⟨vs, sl, hev, _⟩ := y2.ex
  refine stN F' (news := (e, ⟨.ref C, some d, .fields vs, sl⟩) :: led) (fun q hq => ?_) (fun h₇ F₇ N₇ => h h₇ _ vs sl F₇ N₇) hk hlo
  rcases List.mem_cons.mp hq with rfl | hq
  · exact ⟨hev, Ne.symm heL, heg⟩
  · exact N' q hq
end
end
section
open PySem PySem.W PyProof.Rows PySem.Spec PySem.Calls
noncomputable def keepOf (new bs : List (Addr × Obj)) : List (Addr × Obj) := bs.filter fun p => !(new.any fun q => q.1 == p.1)
noncomputable def lay (new bs : List (Addr × Obj)) : List (Addr × Obj) := new ++ keepOf new bs
theorem mem_keep {new bs : List (Addr × Obj)} {p : Addr × Obj} : p ∈ keepOf new bs ↔ p ∈ bs ∧ p.1 ∉ new.map (·.1) := by
  unfold keepOf
  rw [List.mem_filter]
  refine and_congr_right fun _ => ?_
  simp only [Bool.not_eq_true', List.any_eq_false, beq_iff_eq, List.mem_map, not_exists, not_and]
section
variable {prog : Program} {w : World} {A : Around} {E : Value → Shared → Prop} {s : Shared} {K : Frag} {e d C L : Addr} {h₀ : Heap} {m : Str → Option Value} {news : List (Addr × Obj)} {name : Str}
theorem getx_own {es : List DictEntry} {n : Nat} {vs : Array Value} {sl : Array (Option Value)} {expr : Bool} {v : Value} {attr : Option Value} {Q : Value → Shared → Prop} (F : Fr h₀ L s.heap m) (X₀ : K.In h₀) (N : News h₀ L s.heap news) (he : (e, ⟨.ref C, some d, .fields vs, sl⟩) ∈ news) (hd : (d, dictOf es n) ∈ news)
    (hga : findIn K (.ref C) "__getattribute__" = some (some (.builtin "BaseException.__getattribute__"))) (hgh : findIn K (.ref C) "__getattr__" = some none)
    (hm : mroIn K C (.type "BaseException") = some true) (hh : hasDictIn K C = true) (ha : findIn K (.ref C) name = some attr) (hn : noGet K attr = true) (hl : getL name es = some (some v)) (hv : handedIn v = true) (h : Q v { s with toks := s.toks + 1 }) :
    wpAny (model prog w) A (getAttr (.ref e) name expr) Q E s :=
  getx (X₀.keeps F.keep) (⟨(N _ he).1, rfl, rfl, (N _ hd).1⟩ : InstAt s.heap e ⟨.ref C, some d, .fields vs, sl⟩ C (some (dictOf es n))) hga hgh hm (findObj_own hh ha hn (by rw [lookIn_dict]; exact hl)) hv h
end
section
variable {prog : Program} {w : World} {A : Around} {s : Shared} {base g g' g₀ h₀ h' : Heap} {outer : List Env} {mean : ExcName → Option Value} {mg mb : Str → Option Value}
  {L a : Addr} {m : Str → Option Value} {cn : Str} {cs : Scope} {ccd : Value} {Q E : Value → Shared → Prop} {bs B : List (Addr × Obj)} {n : Nat} {dd pa : Addr} {po : Obj} {args : List Value} {O : List (Addr × Obj) → Value → Prop}
noncomputable def DeedK (prog : Program) (w : World) (base : Heap) (bs : List (Addr × Obj)) (n : Nat) (dd : Addr) (args : List Value) (O : List (Addr × Obj) → Value → Prop) : Prop :=
  ∀ (A' : Around) (outer' : List Env) (s' : Shared) (R' : Result → Shared → Prop), Below A' base outer' s'.heap → Room A' n → Has base outer' s'.heap bs →
    (∀ h' tk v new, Step [] (new.map (·.1)) s'.heap h' → (∀ q ∈ new, h'.get? q.1 = some q.2) → (∀ q ∈ new, ∃ o, (q.1, o) ∈ bs) → O new v → R' (.ok (.ret v)) { s' with heap := h', toks := tk }) →
    (∀ h' tk e C c new, Step (fs outer') (new.map (·.1)) s'.heap h' → (∀ q ∈ new, h'.get? q.1 = some q.2) → (∀ q ∈ new, ∃ o, (q.1, o) ∈ bs) → Flew w s'.heap h' e C c →
      ((C = 51 ∧ ∀ tz, O new (.int c tz)) ∨ (C = 70 ∧ ∀ t, O new (.str (PySem.Str.ofString "end") t))) → R' (.error (.ref e)) { s' with heap := h', toks := tk }) →
    codeAny (model prog w) A' (.call (.ref dd) ⟨args, []⟩) R' s'
theorem deed_K {hpS : Heap} {gnS : Array GenState} {drS : Drawn} {tkS : Nat} {osS : OsState} (hc : DeedK prog w base bs n dd args O) (B : Below A base outer g) (F : Fr g L hpS m) (N : News g L hpS ((pa, po) :: bs)) (hp : AllNe pa bs) (Rm : Room A (n + 1))
    (k : Halt (∀ h' tk v new, Fr g L h' m → News g L h' (lay new ((pa, po) :: bs)) → (∀ q ∈ new, ∃ o, (q.1, o) ∈ bs) → O new v → Q v ⟨h', gnS, drS, tk, osS⟩))
    (kx : Halt (∀ h' tk e C c new, Step (L :: fs outer) (new.map (·.1)) hpS h' → (∀ b ∈ new.map (·.1), (∃ o, (b, o) ∈ (pa, po) :: bs) ∧ ∃ o, h'.get? b = some o) → (∀ q ∈ lay new ((pa, po) :: bs), h'.get? q.1 = some q.2 ∧ ∃ o, (q.1, o) ∈ (pa, po) :: bs) →
      (∀ q ∈ new, ∃ o, (q.1, o) ∈ bs) → Flew w hpS h' e C c → ((C = 51 ∧ ∀ tz, O new (.int c tz)) ∨ (C = 70 ∧ ∀ t, O new (.str (PySem.Str.ofString "end") t))) → E (.ref e) ⟨h', gnS, drS, tk, osS⟩))
    (hk : cs.kind = .function := by rfl) : wpAny (model prog w) (A.deeper (envOf cn cs L a ccd)) (call (.ref dd) args) Q E ⟨hpS, gnS, drS, tkS, osS⟩ := by
  refine wpAny_call (hc _ _ _ _ (B.push F hk) (Rm.deeper (Nat.le_refl _)) (has_of B N fun p hp => .tail _ hp) (fun h' tk v new x1 x2 x3 x4 => ?_) fun h' tk e C c new x1 x2 x3 x4 x5 => ?_)
  · have F' := back0 x1 F fun b hb => by
      obtain ⟨q, hq, rfl⟩ := List.mem_map.mp hb
      obtain ⟨o, ho⟩ := x3 q hq
      exact ⟨(N _ (.tail _ ho)).2.2, (N _ (.tail _ ho)).2.1⟩
    refine k h' tk v new F' (fun q hq => ?_) x3 x4
    rcases List.mem_append.mp hq with hq | hq
    · obtain ⟨o, ho⟩ := x3 q hq
      exact ⟨x2 q hq, (N _ (.tail _ ho)).2⟩
    · obtain ⟨h1, h2⟩ := mem_keep.mp hq
      exact ⟨x1.at (N q h1).1 h2 List.not_mem_nil, (N q h1).2⟩
  · refine kx h' tk e C c new x1 (fun b hb => ?_) (fun q hq => ?_) x3 x4 x5
    · obtain ⟨q, hq, rfl⟩ := List.mem_map.mp hb
      obtain ⟨o, ho⟩ := x3 q hq
      exact ⟨⟨o, .tail _ ho⟩, _, x2 q hq⟩
    · rcases List.mem_append.mp hq with hq | hq
      · obtain ⟨o, ho⟩ := x3 q hq
        exact ⟨x2 q hq, o, .tail _ ho⟩
      · obtain ⟨h1, h2⟩ := mem_keep.mp hq
        refine ⟨x1.at (N q h1).1 h2 (fun z => ?_), _, h1⟩
        rcases List.mem_cons.mp z with z | z
        · exact (N q h1).2.1 z
        · obtain ⟨_, o, ho, _⟩ := B.frames.mem z
          rw [(N q h1).2.2] at ho; cases ho
theorem heard_end {led new : List (Addr × Obj)} (H : Has base outer h₀ B) (hold : Old h₀ g₀ (B.map (·.1))) (T0 : KtsTurn (fs outer) g₀ g') (F : Fr g' L h' m) (N : News g' L h' led) (hl : ∀ q ∈ lay new B, q ∈ led) :
    Step (fs outer) (new.map (·.1)) h₀ h' ∧ ∀ q ∈ new, h'.get? q.1 = some q.2 :=
  ⟨step_cut (end1 hold T0 F) H fun p hp hn => (N p (hl p (List.mem_append_right _ (mem_keep.mpr ⟨hp, hn⟩)))).1, fun q hq => (N q (hl q (List.mem_append_left _ hq))).1⟩
end
theorem line_M13_1 : True := by
  k_with_none
  w_top off
  k_with "my:k_mem" => (first | exact m0_ | exact m1_ | exact m2_ | exact m3_ | exact m4_ | exact m5_ | exact m6_ | exact m7_ | (refine m8s_ ?_; k_mem))
  k_with "my:k_ne" => (((try dsimp only); first
  | exact AllNe.mem (by assumption) (_, _) (by k_mem)
  | exact Ne.symm (AllNe.mem (by assumption) (_, _) (by k_mem))
  | assumption
  | exact Ne.symm (by assumption)))
  k_with "my_enter" => ((
  (case ho => k_is)
  (case hcd => k_is)
  (case hbind => exact BindsTo.of_eq rfl)
  (case hloc => exact locs rfl)
  (case hco => exact rfl)
  (case hgen => exact rfl)
  (case hk => exact rfl)
  (case hcell => decide)))
  k_with "my_dist" => (((simp only [Dist, AllNe, and_true]); (repeat' (refine And.intro ?_ ?_)); all_goals k_ne))
  k_with "my_bs" => (first | exact List.forall_mem_nil _ | (refine List.forall_mem_cons.mpr ⟨⟨⟨_, by k_mem⟩, ⟨by k_ne, by k_ne⟩⟩, ?_⟩; walk_at "my_bs"))
  k_with "my_bs0" => (first | exact List.forall_mem_nil _ | (refine List.forall_mem_cons.mpr ⟨⟨_, by k_mem⟩, ?_⟩; walk_at "my_bs0"))
  k_with "my_ro" => (first | exact List.forall_mem_nil _ | (refine List.forall_mem_cons.mpr ⟨?aZ, ?bZ⟩; (case aZ => first | exact fun _ => News.get (by k_asm) (by k_mem) | exact fun hn => absurd (by simp) hn); (case bZ => walk_at "my_ro")))
  k_with "exec Raise some none" => ((k_here; (with_reducible show wpAny _ _ (exec (Stmt.Raise (some (Expr.Call (Expr.Name (PySem.Str.ofString "IoFault") _) _ _ _)) none _) _) _ _ _); k_dflt (refine' raise_K (C := 51) ?XZ ?KZ ?bZ ?tZ ?hZ ?_; (case XZ => k_asm); (case KZ => k_is); (case bZ => rfl); (case tZ => rfl); (case hZ => first | exact rfl | exact Room.hand (by assumption)); k_whole)))
  k_with "exec Raise some none" => ((k_here; (with_reducible show wpAny _ _ (exec (Stmt.Raise (some (Expr.Call (Expr.Name (PySem.Str.ofString "EndFault") _) _ _ _)) none _) _) _ _ _); k_dflt (refine' raise_K (C := 70) ?XZ ?KZ ?bZ ?tZ ?hZ ?_; (case XZ => k_asm); (case KZ => k_is); (case bZ => rfl); (case tZ => rfl); (case hZ => first | exact rfl | exact Room.hand (by assumption)); k_whole)))
  k_with "call ref" => ((k_here; (with_reducible show wpAny _ _ (PySem.call (Value.ref 51) [_, _]) _ _ _); k_dflt (refine' mk51_K ?SZ ?BZ ?FZ ?NZ ?RZ ?_; (case SZ => assumption); (case BZ => assumption); (case FZ => k_asm); (case NZ => k_asm); (case RZ => exact Room.less (by assumption) (by decide)); k_whole); intro h' tk' e' t' d' tx' ty' F' N' l1 l2 l3; (try k_sweep)))
  k_with "call ref" => ((k_here; (with_reducible show wpAny _ _ (PySem.call (Value.ref 70) [_]) _ _ _); k_dflt (refine' mk70_K ?SZ ?BZ ?FZ ?NZ ?RZ ?_; (case SZ => assumption); (case BZ => assumption); (case FZ => k_asm); (case NZ => k_asm); (case RZ => exact Room.less (by assumption) (by decide)); k_whole); intro h' tk' e' t' d' tx' ty' tz' F' N' l1 l2 l3; (try k_sweep)))
  k_with "RaiseMade" => ((k_dflt (refine' raiseMade_ ?XZ ?hZ ?_; (case XZ => k_in); (case hZ => exact News.get (by k_asm) (by k_mem)))))
  k_with "call ref" => ((k_here; k_dflt (refine' deed_K ?hcZ ?BZ ?FZ ?NZ ?pZ ?RZ ?kz4556 ?kxz4556; (case hcZ => assumption); (case BZ => assumption); (case FZ => k_asm); (case NZ => k_asm); (case pZ => assumption); (case RZ => exact Room.less (by assumption) (by omega)))))
  k_with "getAttr ref" => ((k_here; k_dflt (refine' getx_own ?FZ ?XZ ?NZ ?eZ ?dZ ?gaZ ?ghZ ?mZ ?h1Z ?h2Z ?h3Z ?h4Z ?hhZ ?_; (case FZ => k_asm); (case NZ => k_asm); (case eZ => k_mem); (case dZ => k_mem); (case XZ => k_asm); (case gaZ => k_is); (case ghZ => k_is); (case mZ => k_is); (case h1Z => k_is); (case h2Z => k_is); (case h3Z => first | exact rfl | k_is); (case h4Z => k_get); (case hhZ => exact rfl))))
  trivial
section
variable {prog : Program} {w : World} {A : Around} {s : Shared} {base : Heap} {outer : List Env} {mean : ExcName → Option Value} {mg mb : Str → Option Value}
  {R : Result → Shared → Prop} {bs : List (Addr × Obj)} {n : Nat} {pa : Addr} {pn : Nat} {uv : Value} {O : List (Addr × Obj) → Value → Prop}
theorem heard230  {td : Tok} (S : St w mean mg mb base) (B : Below A base outer s.heap) (Rm : Room A (n + 2)) (H : Has base outer s.heap ((pa, listOf #[] pn) :: bs)) (hp : AllNe pa bs) (hc : DeedK prog w base bs n 230 [uv] O)
    (kk : ∀ h' tk v new, Step (fs outer) (new.map (·.1)) s.heap h' → (∀ q ∈ new, h'.get? q.1 = some q.2) → (∀ q ∈ new, ∃ o, (q.1, o) ∈ bs) → O new v → R (.ok (.ret v)) { s with heap := h', toks := tk }) :
    codeAny (model prog w) A (.call (.ref 306) ⟨[.ref 230, uv, .ref pa], []⟩) R s := by
  obtain ⟨ha, dp, fr, gd, un⟩ := A
  obtain rfl : ha = none := Rm.han
  obtain rfl : fr = some outer := B.stack
  refine' enter ((pa, listOf #[] pn) :: bs) S B Rm.d H ?ho ?hcd ?hbind ?hloc ?h ?hco ?hgen ?hk ?hcell
  walk_at "my_enter"
  intro g L' h₁ F N B' X T hold hg hL
  have T0 : KtsTurn (fs outer) g g := KtsTurn.refl
  skip
  dsimp only
  try k_fold
  k_steps
  · show ∀ _, _
    intro h' tk v new F N y1 y2
    k_steps
    obtain ⟨z1, z2⟩ := heard_end (new := new) H hold T0 F N fun q hq => hq
    exact kk _ _ _ new z1 z2 y1 y2
  · show ∀ _, _
    intro h' tk e C c new x1 x2 x3 x4 x5 x6
    k_steps
    refine caughtA (led' := lay new _) B' (by k_asm) (by k_asm) x5 x1 x2 x3 ?_
    intro h₃ g₃ d T₀ tx ty tz v T1 F3 N3 B3 tr hd ge gd' gT ll LT Le Ld ed Td
    have X3 := S.X.keeps B3.stays
    have TT3 := S.T.keeps B3.stays
    rcases x6 with ⟨rfl, hO⟩ | ⟨rfl, hO⟩
    · refine pass_my (by kts_nm) F3 X3 TT3 tr.ty (by kts_exm) ?_ rfl rfl (by decide)
      have N4 : News g₃ L' h₃ ((d, dictOf [⟨PyData.keyHash w.params "text", .str "text" tx, v⟩, ⟨PyData.keyHash w.params "code", .str "code" ty, .int c tz⟩] 2) :: lay new ((pa, listOf #[] pn) :: bs)) := fun q hq => by
        rcases List.mem_cons.mp hq with rfl | hq
        · exact ⟨hd, Ne.symm Ld, gd'⟩
        · exact N3 q hq
      refine hitas_my (by kts_nm) F3 X3 TT3 N4 tr gT LT (fun q hq => ?_) ge Le (by kts_exm) ?_ rfl rfl (by decide) rfl
      · rcases List.mem_cons.mp hq with rfl | hq
        · exact Ne.symm Td
        · exact (ll q hq).1
      intro h₄ tk₄ vs sl F4 N5
      clear F3 N3 N4
      k_steps
      (rename Fr _ _ _ _ => F9)
      (rename News _ _ _ _ => N9)
      obtain ⟨z1, z2⟩ := heard_end (new := new) H hold (T0.trans T1) F9 N9 fun q hq => .tail _ (.tail _ hq)
      exact kk _ _ _ new z1 z2 x4 (hO _)
    · refine hit_my (by kts_nm) F3 X3 TT3 N3 tr gT LT (fun q hq => (ll q hq).1) (by kts_exm) ?_ rfl rfl (by decide)
      intro h₄ F4 N4
      clear F3 N3
      k_steps
      show R (.ok (.ret _)) _
      obtain ⟨z1, z2⟩ := heard_end (new := new) H hold (T0.trans T1) F4 N4 fun q hq => hq
      exact kk _ _ _ new z1 z2 x4 (hO _)
theorem heard244 {v0 : Value} {td : Tok} (S : St w mean mg mb base) (B : Below A base outer s.heap) (Rm : Room A (n + 2)) (H : Has base outer s.heap ((pa, listOf #[v0] pn) :: bs)) (hp : AllNe pa bs) (hc : DeedK prog w base bs n 244 [uv, v0] O)
    (kk : ∀ h' tk v new, Step (fs outer) (new.map (·.1)) s.heap h' → (∀ q ∈ new, h'.get? q.1 = some q.2) → (∀ q ∈ new, ∃ o, (q.1, o) ∈ bs) → O new v → R (.ok (.ret v)) { s with heap := h', toks := tk }) :
    codeAny (model prog w) A (.call (.ref 306) ⟨[.ref 244, uv, .ref pa], []⟩) R s := by
  obtain ⟨ha, dp, fr, gd, un⟩ := A
  obtain rfl : ha = none := Rm.han
  obtain rfl : fr = some outer := B.stack
  refine' enter ((pa, listOf #[v0] pn) :: bs) S B Rm.d H ?ho ?hcd ?hbind ?hloc ?h ?hco ?hgen ?hk ?hcell
  walk_at "my_enter"
  intro g L' h₁ F N B' X T hold hg hL
  have T0 : KtsTurn (fs outer) g g := KtsTurn.refl
  skip
  dsimp only
  try k_fold
  k_steps
  · show ∀ _, _
    intro h' tk v new F N y1 y2
    k_steps
    obtain ⟨z1, z2⟩ := heard_end (new := new) H hold T0 F N fun q hq => hq
    exact kk _ _ _ new z1 z2 y1 y2
  · show ∀ _, _
    intro h' tk e C c new x1 x2 x3 x4 x5 x6
    k_steps
    refine caughtA (led' := lay new _) B' (by k_asm) (by k_asm) x5 x1 x2 x3 ?_
    intro h₃ g₃ d T₀ tx ty tz v T1 F3 N3 B3 tr hd ge gd' gT ll LT Le Ld ed Td
    have X3 := S.X.keeps B3.stays
    have TT3 := S.T.keeps B3.stays
    rcases x6 with ⟨rfl, hO⟩ | ⟨rfl, hO⟩
    · refine pass_my (by kts_nm) F3 X3 TT3 tr.ty (by kts_exm) ?_ rfl rfl (by decide)
      have N4 : News g₃ L' h₃ ((d, dictOf [⟨PyData.keyHash w.params "text", .str "text" tx, v⟩, ⟨PyData.keyHash w.params "code", .str "code" ty, .int c tz⟩] 2) :: lay new ((pa, listOf #[v0] pn) :: bs)) := fun q hq => by
        rcases List.mem_cons.mp hq with rfl | hq
        · exact ⟨hd, Ne.symm Ld, gd'⟩
        · exact N3 q hq
      refine hitas_my (by kts_nm) F3 X3 TT3 N4 tr gT LT (fun q hq => ?_) ge Le (by kts_exm) ?_ rfl rfl (by decide) rfl
      · rcases List.mem_cons.mp hq with rfl | hq
        · exact Ne.symm Td
        · exact (ll q hq).1
      intro h₄ tk₄ vs sl F4 N5
      clear F3 N3 N4
      k_steps
      (rename Fr _ _ _ _ => F9)
      (rename News _ _ _ _ => N9)
      obtain ⟨z1, z2⟩ := heard_end (new := new) H hold (T0.trans T1) F9 N9 fun q hq => .tail _ (.tail _ hq)
      exact kk _ _ _ new z1 z2 x4 (hO _)
    · refine hit_my (by kts_nm) F3 X3 TT3 N3 tr gT LT (fun q hq => (ll q hq).1) (by kts_exm) ?_ rfl rfl (by decide)
      intro h₄ F4 N4
      clear F3 N3
      k_steps
      show R (.ok (.ret _)) _
      obtain ⟨z1, z2⟩ := heard_end (new := new) H hold (T0.trans T1) F4 N4 fun q hq => hq
      exact kk _ _ _ new z1 z2 x4 (hO _)
theorem heard279 {v0 : Value} {td : Tok} (S : St w mean mg mb base) (B : Below A base outer s.heap) (Rm : Room A (n + 2)) (H : Has base outer s.heap ((pa, listOf #[v0] pn) :: bs)) (hp : AllNe pa bs) (hc : DeedK prog w base bs n 279 [uv, v0] O)
    (kk : ∀ h' tk v new, Step (fs outer) (new.map (·.1)) s.heap h' → (∀ q ∈ new, h'.get? q.1 = some q.2) → (∀ q ∈ new, ∃ o, (q.1, o) ∈ bs) → O new v → R (.ok (.ret v)) { s with heap := h', toks := tk }) :
    codeAny (model prog w) A (.call (.ref 306) ⟨[.ref 279, uv, .ref pa], []⟩) R s := by
  obtain ⟨ha, dp, fr, gd, un⟩ := A
  obtain rfl : ha = none := Rm.han
  obtain rfl : fr = some outer := B.stack
  refine' enter ((pa, listOf #[v0] pn) :: bs) S B Rm.d H ?ho ?hcd ?hbind ?hloc ?h ?hco ?hgen ?hk ?hcell
  walk_at "my_enter"
  intro g L' h₁ F N B' X T hold hg hL
  have T0 : KtsTurn (fs outer) g g := KtsTurn.refl
  skip
  dsimp only
  try k_fold
  k_steps
  · show ∀ _, _
    intro h' tk v new F N y1 y2
    k_steps
    obtain ⟨z1, z2⟩ := heard_end (new := new) H hold T0 F N fun q hq => hq
    exact kk _ _ _ new z1 z2 y1 y2
  · show ∀ _, _
    intro h' tk e C c new x1 x2 x3 x4 x5 x6
    k_steps
    refine caughtA (led' := lay new _) B' (by k_asm) (by k_asm) x5 x1 x2 x3 ?_
    intro h₃ g₃ d T₀ tx ty tz v T1 F3 N3 B3 tr hd ge gd' gT ll LT Le Ld ed Td
    have X3 := S.X.keeps B3.stays
    have TT3 := S.T.keeps B3.stays
    rcases x6 with ⟨rfl, hO⟩ | ⟨rfl, hO⟩
    · refine pass_my (by kts_nm) F3 X3 TT3 tr.ty (by kts_exm) ?_ rfl rfl (by decide)
      have N4 : News g₃ L' h₃ ((d, dictOf [⟨PyData.keyHash w.params "text", .str "text" tx, v⟩, ⟨PyData.keyHash w.params "code", .str "code" ty, .int c tz⟩] 2) :: lay new ((pa, listOf #[v0] pn) :: bs)) := fun q hq => by
        rcases List.mem_cons.mp hq with rfl | hq
        · exact ⟨hd, Ne.symm Ld, gd'⟩
        · exact N3 q hq
      refine hitas_my (by kts_nm) F3 X3 TT3 N4 tr gT LT (fun q hq => ?_) ge Le (by kts_exm) ?_ rfl rfl (by decide) rfl
      · rcases List.mem_cons.mp hq with rfl | hq
        · exact Ne.symm Td
        · exact (ll q hq).1
      intro h₄ tk₄ vs sl F4 N5
      clear F3 N3 N4
      k_steps
      (rename Fr _ _ _ _ => F9)
      (rename News _ _ _ _ => N9)
      obtain ⟨z1, z2⟩ := heard_end (new := new) H hold (T0.trans T1) F9 N9 fun q hq => .tail _ (.tail _ hq)
      exact kk _ _ _ new z1 z2 x4 (hO _)
    · refine hit_my (by kts_nm) F3 X3 TT3 N3 tr gT LT (fun q hq => (ll q hq).1) (by kts_exm) ?_ rfl rfl (by decide)
      intro h₄ F4 N4
      clear F3 N3
      k_steps
      show R (.ok (.ret _)) _
      obtain ⟨z1, z2⟩ := heard_end (new := new) H hold (T0.trans T1) F4 N4 fun q hq => hq
      exact kk _ _ _ new z1 z2 x4 (hO _)
theorem heard286 {v0 v1 : Value} {td : Tok} (S : St w mean mg mb base) (B : Below A base outer s.heap) (Rm : Room A (n + 2)) (H : Has base outer s.heap ((pa, listOf #[v0, v1] pn) :: bs)) (hp : AllNe pa bs) (hc : DeedK prog w base bs n 286 [uv, v0, v1] O)
    (kk : ∀ h' tk v new, Step (fs outer) (new.map (·.1)) s.heap h' → (∀ q ∈ new, h'.get? q.1 = some q.2) → (∀ q ∈ new, ∃ o, (q.1, o) ∈ bs) → O new v → R (.ok (.ret v)) { s with heap := h', toks := tk }) :
    codeAny (model prog w) A (.call (.ref 306) ⟨[.ref 286, uv, .ref pa], []⟩) R s := by
  obtain ⟨ha, dp, fr, gd, un⟩ := A
  obtain rfl : ha = none := Rm.han
  obtain rfl : fr = some outer := B.stack
  refine' enter ((pa, listOf #[v0, v1] pn) :: bs) S B Rm.d H ?ho ?hcd ?hbind ?hloc ?h ?hco ?hgen ?hk ?hcell
  walk_at "my_enter"
  intro g L' h₁ F N B' X T hold hg hL
  have T0 : KtsTurn (fs outer) g g := KtsTurn.refl
  skip
  dsimp only
  try k_fold
  k_steps
  · show ∀ _, _
    intro h' tk v new F N y1 y2
    k_steps
    obtain ⟨z1, z2⟩ := heard_end (new := new) H hold T0 F N fun q hq => hq
    exact kk _ _ _ new z1 z2 y1 y2
  · show ∀ _, _
    intro h' tk e C c new x1 x2 x3 x4 x5 x6
    k_steps
    refine caughtA (led' := lay new _) B' (by k_asm) (by k_asm) x5 x1 x2 x3 ?_
    intro h₃ g₃ d T₀ tx ty tz v T1 F3 N3 B3 tr hd ge gd' gT ll LT Le Ld ed Td
    have X3 := S.X.keeps B3.stays
    have TT3 := S.T.keeps B3.stays
    rcases x6 with ⟨rfl, hO⟩ | ⟨rfl, hO⟩
    · refine pass_my (by kts_nm) F3 X3 TT3 tr.ty (by kts_exm) ?_ rfl rfl (by decide)
      have N4 : News g₃ L' h₃ ((d, dictOf [⟨PyData.keyHash w.params "text", .str "text" tx, v⟩, ⟨PyData.keyHash w.params "code", .str "code" ty, .int c tz⟩] 2) :: lay new ((pa, listOf #[v0, v1] pn) :: bs)) := fun q hq => by
        rcases List.mem_cons.mp hq with rfl | hq
        · exact ⟨hd, Ne.symm Ld, gd'⟩
        · exact N3 q hq
      refine hitas_my (by kts_nm) F3 X3 TT3 N4 tr gT LT (fun q hq => ?_) ge Le (by kts_exm) ?_ rfl rfl (by decide) rfl
      · rcases List.mem_cons.mp hq with rfl | hq
        · exact Ne.symm Td
        · exact (ll q hq).1
      intro h₄ tk₄ vs sl F4 N5
      clear F3 N3 N4
      k_steps
      (rename Fr _ _ _ _ => F9)
      (rename News _ _ _ _ => N9)
      obtain ⟨z1, z2⟩ := heard_end (new := new) H hold (T0.trans T1) F9 N9 fun q hq => .tail _ (.tail _ hq)
      exact kk _ _ _ new z1 z2 x4 (hO _)
    · refine hit_my (by kts_nm) F3 X3 TT3 N3 tr gT LT (fun q hq => (ll q hq).1) (by kts_exm) ?_ rfl rfl (by decide)
      intro h₄ F4 N4
      clear F3 N3
      k_steps
      show R (.ok (.ret _)) _
      obtain ⟨z1, z2⟩ := heard_end (new := new) H hold (T0.trans T1) F4 N4 fun q hq => hq
      exact kk _ _ _ new z1 z2 x4 (hO _)
end
end
section
open PySem PySem.W PyProof.Rows PySem.Spec PySem.Calls
open PyProof.Rows.LCg
noncomputable def EndM (A₀ : Around) (base g₀ : Heap) (outer : List Env) (L : Addr) (m : Str → Option Value) (J : Nat → List Value → Heap → List (Addr × Obj) → Prop) (gens : Array GenState) (dr : Drawn) (os : OsState) (i : Nat) (ys : List Value) (I : Addr) (oI : Obj) (C : Addr) (oC : Obj) (D : Addr) (y : Value) (s₂ : Shared) : Prop :=
  ∃ h' tk g' news', s₂ = ⟨h', gens, dr, tk, os⟩ ∧ KtsTurn (fs outer) g₀ g' ∧ Fr g' L h' m ∧ Below A₀ base outer g' ∧ News g' L h' ((I, oI) :: (C, oC) :: (D, lst ys) :: news') ∧ Off3 I C D news' ∧ J (i + 1) (ys ++ [y]) g' news'
section
variable {prog : Program} {w : World} {A A₀ : Around} {E : Value → Shared → Prop} {base g₀ : Heap} {outer : List Env} {L : Addr} {m : Str → Option Value} {env : Env}
noncomputable def block_M_P (prog : Program) (w : World) (A : Around) (A₀ : Around) (E : Value → Shared → Prop) (base : Heap) (g₀ : Heap) (outer : List Env) (L : Addr) (m : Str → Option Value) (env : Env) (elt : Expr) (iter : Expr) (x : Str) (px : Pos) (scope : Scope) (cl : List (Str × Addr)) (pos : Pos) (s₂ : Shared) (I : Addr) (fp : List Addr) (n : Nat) (P : Nat → Value → Prop) (St : Nat → Heap → Prop) (J : Nat → List Value → Heap → List (Addr × Obj) → Prop) (news : List (Addr × Obj)) (RR : Value → Addr → Result → Shared → Prop) : Prop := ∀ (W : Walks prog w A I fp [I] n P St) (hsz : n ≤ sizeLine) (hIo : ∀ i h, St i h → ∃ o, h.get? I = some o) (hSt : ∀ i h h' o g nw ys, St i h → h.get? I = some o → h'.get? I = some o → (∀ b o, g.get? b = some o → h'.get? b = some o) → News g L h' nw → J i ys g nw → St i h') (hcell : ∀ y ∈ scope.names, y.2 ≠ .cell) (hkind : scope.kind = .function) (hx : scope.names.lookup x = some .local) (hst : St 0 s₂.heap) (hfp : ∀ b ∈ fp, b < s₂.heap.objs.size) (F : Fr g₀ L s₂.heap m) (Bl : Below A₀ base outer g₀) (N : News g₀ L s₂.heap news) (hIL : L ≠ I) (hI₀ : g₀.get? I = none) (off : ∀ p ∈ news, p.1 ≠ I) (hJ : J 0 [] g₀ news) (turn : ∀ i ys g news v I oI C oC D m₂ h tk (E' : Value → Shared → Prop), i < n → ys.length = i → P i v → NsObj oC m₂ → m₂ x = some v → KtsTurn (fs outer) g₀ g → Fr g L h m → Below A₀ base outer g → News g L h ((I, oI) :: (C, oC) :: (D, lst ys) :: news) → Off3 I C D news → ((@Ne Nat I C) ∧ (@Ne Nat I D) ∧ (@Ne Nat C D)) → J i ys g news → wpAny (model prog w) A (eval elt (compEnvC scope cl C env)) (EndM A₀ base g₀ outer L m J s₂.gens s₂.drawn s₂.os i ys I oI C oC D) E' { s₂ with heap := h, toks := tk }) (hRR : ∀ D C h tk m' ys g news', ys.length = n → KtsTurn (fs outer) g₀ g → Fr g L h m → Below A₀ base outer g → News g L h ((D, lst ys) :: news') → Off1 D news' → h.Ns C m' → g.get? C = none → g.get? D = none → C ≠ L → D ≠ L → C ≠ D → (∀ p ∈ news', p.1 ≠ C) → J n ys g news' → RR (.ref D) C (.ok .next) { s₂ with heap := h, toks := tk }), wpAny (model prog w) A (newList []) (fun acc s₃ => wpAny (model prog w) A (newFunctionEnv scope env.globals cl [] env.qual none .none (some env)) (fun cenv s₄ =>
      codeAny (model prog w) A (.compStart (.ListComp elt [⟨.Name x px, iter, [], 0⟩] scope pos) 0 (.ref I) acc { cenv with scope := relabel scope env }) (RR acc cenv.locals) s₄) E s₃) E s₂
noncomputable def block_M_q (x : (((((Program × World) × (Around × Around)) × (((Value → Shared → Prop) × Heap) × Heap)) × (((List Env × Addr) × ((Str → Option Value) × Env)) × ((Expr × Expr) × Str))) × ((((Pos × Scope) × (List (Str × Addr) × Pos)) × ((Shared × Addr) × List Addr)) × (((Nat × (Nat → Value → Prop)) × (Nat → Heap → Prop)) × (((Nat → List Value → Heap → List (Addr × Obj) → Prop) × List (Addr × Obj)) × (Value → Addr → Result → Shared → Prop)))))) : Prop := block_M_P x.1.1.1.1.1 x.1.1.1.1.2 x.1.1.1.2.1 x.1.1.1.2.2 x.1.1.2.1.1 x.1.1.2.1.2 x.1.1.2.2 x.1.2.1.1.1 x.1.2.1.1.2 x.1.2.1.2.1 x.1.2.1.2.2 x.1.2.2.1.1 x.1.2.2.1.2 x.1.2.2.2 x.2.1.1.1.1 x.2.1.1.1.2 x.2.1.1.2.1 x.2.1.1.2.2 x.2.1.2.1.1 x.2.1.2.1.2 x.2.1.2.2 x.2.2.1.1.1 x.2.2.1.1.2 x.2.2.1.2 x.2.2.2.1.1 x.2.2.2.1.2 x.2.2.2.2
noncomputable def block_M_c := @Classical.epsilon _ ⟨(((((PySem.Challenge.pw_sa0211_01, aWorld 1), ({}, {})), ((fun _ _ => True, {}), {})), ((([], 0), (fun _ => none, default)), ((default, default), Str.ofString ""))), ((((default, default), (default, default)), (({}, 0), default)), (((0, default), default), ((default, []), default))))⟩ fun x => ¬ block_M_q x
theorem block_M_k : block_M_q block_M_c := by
  refine (?fq : ∀ (prog : Program) (w : World) (A : Around) (A₀ : Around) (E : Value → Shared → Prop) (base : Heap) (g₀ : Heap) (outer : List Env) (L : Addr) (m : Str → Option Value) (env : Env) (elt : Expr) (iter : Expr) (x : Str) (px : Pos) (scope : Scope) (cl : List (Str × Addr)) (pos : Pos) (s₂ : Shared) (I : Addr) (fp : List Addr) (n : Nat) (P : Nat → Value → Prop) (St : Nat → Heap → Prop) (J : Nat → List Value → Heap → List (Addr × Obj) → Prop) (news : List (Addr × Obj)) (RR : Value → Addr → Result → Shared → Prop), block_M_P prog w A A₀ E base g₀ outer L m env elt iter x px scope cl pos s₂ I fp n P St J news RR) _ _ _ _ _ _ _ _ _ _ _ _ _ _ _ _ _ _ _ _ _ _ _ _ _ _ _ 
  intro prog w A A₀ E base g₀ outer L m env elt iter x px scope cl pos s₂ I fp n P St J news RR W hsz hIo hSt hcell hkind hx hst hfp F Bl N hIL hI₀ off hJ turn hRR
  refine wpAny_newObj_type (wpAny_newFunctionEnv hcell (by intro y hy; simp at hy) (fun h₁ hns₁ hsb₁ => ?_) hkind)
  dsimp only at hns₁ hsb₁ ⊢
  generalize hH2 : s₂.heap.push { cls := .type "list", dict := none, data := .seq ([] : List Value).toArray } = H2 at hns₁ hsb₁ ⊢
  have hC : H2.objs.size = s₂.heap.objs.size + 1 := by rw [← hH2, Heap.size_push]
  have hDC : s₂.heap.objs.size ≠ H2.objs.size := by rw [hC]; exact Nat.ne_of_lt (Nat.lt_succ_self _)
  have below : ∀ b, b < s₂.heap.objs.size → b ≠ H2.objs.size ∧ b ≠ s₂.heap.objs.size := fun b hb => ⟨by rw [hC]; exact Nat.ne_of_lt (Nat.lt_succ_of_lt hb), Nat.ne_of_lt hb⟩
  have hDf : s₂.heap.objs.size ∉ fp := fun hm => Nat.lt_irrefl _ (hfp _ hm)
  have hCf : H2.objs.size ∉ fp := fun hm => by have := hfp _ hm; rw [hC] at this; exact Nat.lt_irrefl _ (Nat.lt_of_succ_lt this)
  have hIf : I ∈ fp := W.sub I (List.mem_singleton.mpr rfl)
  have hIlt : I < s₂.heap.objs.size := hfp I hIf
  have old : ∀ b o, s₂.heap.get? b = some o → h₁.get? b = some o := fun b o e => hsb₁.extBut b o (below b (Heap.lt_size e)).1 (Heap.get?_push_of_some _ (hH2 ▸ Heap.get?_push_of_some _ e))
  have hacc : h₁.get? s₂.heap.objs.size = some (lst []) := hsb₁.extBut _ _ hDC (Heap.get?_push_of_some _ (hH2 ▸ Heap.get?_push_size _ rfl))
  have hst₁ : St 0 h₁ := W.frame _ _ _ hst fun b _ o e => old b o e
  have fresh : ∀ a, s₂.heap.objs.size ≤ a → s₂.heap.get? a = none := fun a ha => by
    cases e : s₂.heap.get? a with
    | none => rfl
    | some o' => exact absurd (Heap.lt_size e) (Nat.not_lt.mpr ha)
  have fresh₀ : ∀ a, s₂.heap.objs.size ≤ a → g₀.get? a = none := fun a ha => by
    cases e : g₀.get? a with
    | none => rfl
    | some o' => have := F.keep a o' e; rw [fresh a ha] at this; cases this
  have hD₀' : g₀.get? s₂.heap.objs.size = none := fresh₀ _ (Nat.le_refl _)
  have hC₀' : g₀.get? H2.objs.size = none := fresh₀ _ (by rw [hC]; exact Nat.le_succ _)
  have hLlt : L < s₂.heap.objs.size := F.ns.lt
  have hDL : s₂.heap.objs.size ≠ L := Ne.symm (below L hLlt).2
  have hCL : H2.objs.size ≠ L := Ne.symm (below L hLlt).1
  have hCI : I ≠ H2.objs.size := (below I hIlt).1
  have hDI : I ≠ s₂.heap.objs.size := (below I hIlt).2
  have off₀ : Off3 I H2.objs.size s₂.heap.objs.size news := Off3.of fun p hp => ⟨off p hp, (below _ (Heap.lt_size (N p hp).1)).1, (below _ (Heap.lt_size (N p hp).1)).2⟩
  have loop : ∀ s₃ : Shared, s₃ = { s₂ with heap := h₁, toks := s₂.toks + ([] : List (Str × Value)).length } →
      codeAny (model prog w) A (.compLoop (.ListComp elt [⟨.Name x px, iter, [], 0⟩] scope pos) 0 (.ref I) (.ref s₂.heap.objs.size) (compEnvC scope cl H2.objs.size env))
        (RR (.ref s₂.heap.objs.size) H2.objs.size) s₃ := by
    rintro s₃ rfl
    refine codeAny_compLoop_tests
      (fun k s' => ∃ h' tk i ys m' g news', s' = { s₂ with heap := h', toks := tk } ∧ i ≤ n ∧ k = n + 1 - i ∧ ys.length = i ∧ St i h' ∧ KtsTurn (fs outer) g₀ g ∧ Fr g L h' m ∧ Below A₀ base outer g ∧ h'.Ns H2.objs.size m' ∧ News g L h' ((s₂.heap.objs.size, lst ys) :: news') ∧
        Off3 I H2.objs.size s₂.heap.objs.size news' ∧ J i ys g news') ?_ (n + 1)
      ⟨h₁, _, 0, [], _, g₀, news, rfl, Nat.zero_le _, rfl, rfl, hst₁, KtsTurn.refl, F.keeps old, Bl, hns₁, fun p hp => ?_, off₀, hJ⟩
    · rintro k s' ⟨h', tk, i, ys, m', g, news', rfl, hi, rfl, hyl, hst', T', F', B', hn', N', off', J'⟩
      have hD₀ := T'.none_ _ hD₀'
      have hC₀ := T'.none_ _ hC₀'
      have hI₁ := T'.none_ _ hI₀
      by_cases hlt : i < n
      · refine W.item i _ _ _ hlt hst' fun v h₂ tk₂ hPv hst₂ hk₂ => ?_
        refine wpAny_assign_Name (wpAny_storeName_local (lookup_relabel_local hx) (hn'.at' fun o e => hk₂ _ o (by simpa using Ne.symm hCI) e) (fun h₃ hn₃ hs₃ => ?_) (by simp [compEnvC, relabel, hkind]))
        refine wpAny_tests_nil ?_
        simp only [if_true]
        have hst₃ : St (i + 1) h₃ := W.frame _ _ _ hst₂ fun b hb o e => hs₃.extBut b o (fun q => hCf (by have q' : b = H2.objs.size := q; rw [← q']; exact hb)) e
        obtain ⟨oI, heI⟩ := hIo _ _ hst₃
        obtain ⟨oC, heC, hoC⟩ := ns_obj hn₃
        have F₃ : Fr g L h₃ m := (fr_but F' hk₂ hIL hI₁).change hs₃ hCL hC₀
        have off3 := off'.mem
        have N₂ : News g L h₂ ((s₂.heap.objs.size, lst ys) :: news') := news_but N' hk₂ fun p hp => by
          rcases List.mem_cons.mp hp with rfl | hp
          · exact Ne.symm hDI
          · exact (off3 p hp).1
        have N₃ : News g L h₃ ((I, oI) :: (H2.objs.size, oC) :: (s₂.heap.objs.size, lst ys) :: news') := fun p hp => by
          rcases List.mem_cons.mp hp with rfl | hp
          · exact ⟨heI, Ne.symm hIL, hI₁⟩
          · rcases List.mem_cons.mp hp with rfl | hp
            · exact ⟨heC, hCL, hC₀⟩
            · have z := N₂ p hp
              refine ⟨hs₃.extBut _ _ ?_ z.1, z.2⟩
              rcases List.mem_cons.mp hp with rfl | hp
              · exact hDC
              · exact (off3 p hp).2.1
        refine wpAny_mono (turn i ys g news' v I oI H2.objs.size oC s₂.heap.objs.size _ h₃ _ _ hlt hyl hPv hoC (by simp) T' F₃ B' N₃ off' ⟨hCI, hDI, Ne.symm hDC⟩ J') (fun y s₄ h₄ => ?_) fun _ _ e => e
        obtain ⟨h₄, tk₄, g₄, news₄, rfl, T₄, F₄, B₄, N₄, off₄, J₄⟩ := h₄
        have hD₄ := T₄.none_ _ hD₀'
        have hC₄ := T₄.none_ _ hC₀'
        have zI := (N₄ (I, oI) List.mem_cons_self).1
        have zC := (N₄ (H2.objs.size, oC) (List.mem_cons_of_mem _ List.mem_cons_self)).1
        have zD := (N₄ (s₂.heap.objs.size, lst ys) (List.mem_cons_of_mem _ (List.mem_cons_of_mem _ List.mem_cons_self))).1
        have N₄' : News g₄ L h₄ news₄ := fun p hp => N₄ p (List.mem_cons_of_mem _ (List.mem_cons_of_mem _ (List.mem_cons_of_mem _ hp)))
        have hst₄ : St (i + 1) h₄ := hSt _ _ _ _ _ _ _ hst₃ heI zI F₄.keep N₄' J₄
        refine append_at (hsz := by show ys.toArray.size ≤ sizeLine; rw [List.size_toArray, hyl]; exact Nat.le_trans hi hsz) zD fun h₅ hs₅ hD₅ => ?_
        have off4 := off₄.mem
        refine ⟨n + 1 - (i + 1), by omega, h₅, tk₄, i + 1, ys ++ [y], _, g₄, news₄, rfl, hlt, rfl, by rw [List.length_append, List.length_singleton, hyl], W.frame _ _ _ hst₄ fun b hb o e => hs₅.extBut b o (fun q => hDf (q ▸ hb)) e, T₄, F₄.change hs₅ hDL hD₄, B₄,
          (hoC.ns zC).sameBut hs₅ (Ne.symm hDC), fun p hp => ?_, off₄, J₄⟩
        rcases List.mem_cons.mp hp with rfl | hp
        · exact ⟨hD₅.trans (congrArg some (lst_snoc ys y)), hDL, hD₄⟩
        · exact ⟨hs₅.extBut _ _ (off4 p hp).2.2 (N₄' p hp).1, (N₄' p hp).2⟩
      · obtain rfl : i = n := Nat.le_antisymm hi (Nat.not_lt.mp hlt)
        refine W.done _ _ _ hst' fun h₂ tk₂ hk₂ => ?_
        have off3 := off'.mem
        exact hRR _ _ h₂ tk₂ _ ys g news' hyl T' (fr_but F' hk₂ hIL hI₁) B' (news_but N' hk₂ fun p hp => by
          rcases List.mem_cons.mp hp with rfl | hp
          · exact Ne.symm hDI
          · exact (off3 p hp).1) off'.one (hn'.at' fun o e => hk₂ _ o (by simpa using Ne.symm hCI) e) hC₀ hD₀ hCL hDL (Ne.symm hDC) (fun p hp => (off3 p hp).2.1) J'
    · rcases List.mem_cons.mp hp with rfl | hp
      · exact ⟨hacc, hDL, hD₀'⟩
      · exact ⟨old _ _ (N p hp).1, (N p hp).2⟩
  exact codeAny_compStart_list (loop _ rfl) (W.self 0 _ _ _ hst₁ (loop _ rfl))
theorem block_M  {elt iter : Expr} {x : Str} {px : Pos} {scope : Scope} {cl : List (Str × Addr)} {pos : Pos} {s₂ : Shared} {I : Addr} {fp : List Addr} {n : Nat} {P : Nat → Value → Prop} {St : Nat → Heap → Prop} {J : Nat → List Value → Heap → List (Addr × Obj) → Prop} {news : List (Addr × Obj)}
    {RR : Value → Addr → Result → Shared → Prop}
    (W : Walks prog w A I fp [I] n P St) (hsz : n ≤ sizeLine) (hIo : ∀ i h, St i h → ∃ o, h.get? I = some o)
    (hSt : ∀ i h h' o g nw ys, St i h → h.get? I = some o → h'.get? I = some o → (∀ b o, g.get? b = some o → h'.get? b = some o) → News g L h' nw → J i ys g nw → St i h')
    (hcell : ∀ y ∈ scope.names, y.2 ≠ .cell) (hkind : scope.kind = .function) (hx : scope.names.lookup x = some .local) (hst : St 0 s₂.heap) (hfp : ∀ b ∈ fp, b < s₂.heap.objs.size)
    (F : Fr g₀ L s₂.heap m) (Bl : Below A₀ base outer g₀) (N : News g₀ L s₂.heap news) (hIL : L ≠ I) (hI₀ : g₀.get? I = none) (off : ∀ p ∈ news, p.1 ≠ I) (hJ : J 0 [] g₀ news)
    (turn : ∀ i ys g news v I oI C oC D m₂ h tk (E' : Value → Shared → Prop), i < n → ys.length = i → P i v → NsObj oC m₂ → m₂ x = some v → KtsTurn (fs outer) g₀ g → Fr g L h m → Below A₀ base outer g → News g L h ((I, oI) :: (C, oC) :: (D, lst ys) :: news) → Off3 I C D news → ((@Ne Nat I C) ∧ (@Ne Nat I D) ∧ (@Ne Nat C D)) → J i ys g news →
      wpAny (model prog w) A (eval elt (compEnvC scope cl C env)) (EndM A₀ base g₀ outer L m J s₂.gens s₂.drawn s₂.os i ys I oI C oC D) E' { s₂ with heap := h, toks := tk })
    (hRR : ∀ D C h tk m' ys g news', ys.length = n → KtsTurn (fs outer) g₀ g → Fr g L h m → Below A₀ base outer g → News g L h ((D, lst ys) :: news') → Off1 D news' → h.Ns C m' → g.get? C = none → g.get? D = none → C ≠ L → D ≠ L → C ≠ D → (∀ p ∈ news', p.1 ≠ C) → J n ys g news' → RR (.ref D) C (.ok .next) { s₂ with heap := h, toks := tk }) :
    wpAny (model prog w) A (newList []) (fun acc s₃ => wpAny (model prog w) A (newFunctionEnv scope env.globals cl [] env.qual none .none (some env)) (fun cenv s₄ =>
      codeAny (model prog w) A (.compStart (.ListComp elt [⟨.Name x px, iter, [], 0⟩] scope pos) 0 (.ref I) acc { cenv with scope := relabel scope env }) (RR acc cenv.locals) s₄) E s₃) E s₂ :=
  hk_ax (P := block_M_q) _ block_M_k (((((prog, w), (A, A₀)), ((E, base), g₀)), (((outer, L), (m, env)), ((elt, iter), x))), ((((px, scope), (cl, pos)), ((s₂, I), fp)), (((n, P), St), ((J, news), RR)))) W hsz hIo hSt hcell hkind hx hst hfp F Bl N hIL hI₀ off hJ turn hRR
noncomputable def TurnM (prog : Program) (w : World) (A A₀ : Around) (base g₀ : Heap) (outer : List Env) (L : Addr) (m : Str → Option Value) (env : Env) (elt : Expr) (x : Str) (scope : Scope) (cl : List (Str × Addr)) (P : Nat → Value → Prop) (n : Nat) (J : Nat → List Value → Heap → List (Addr × Obj) → Prop) (s₁ : Shared) : Prop :=
  ∀ i ys g news v I oI C oC D m₂ h tk (E' : Value → Shared → Prop), i < n → ys.length = i → P i v → NsObj oC m₂ → m₂ x = some v → KtsTurn (fs outer) g₀ g → Fr g L h m → Below A₀ base outer g → News g L h ((I, oI) :: (C, oC) :: (D, lst ys) :: news) → Off3 I C D news → ((@Ne Nat I C) ∧ (@Ne Nat I D) ∧ (@Ne Nat C D)) → J i ys g news →
      wpAny (model prog w) A (eval elt (compEnvC scope cl C env)) (EndM A₀ base g₀ outer L m J s₁.gens s₁.drawn s₁.os i ys I oI C oC D) E' { s₁ with heap := h, toks := tk }
noncomputable def DoneM (A₀ : Around) (base g₀ : Heap) (outer : List Env) (L : Addr) (m : Str → Option Value) (n : Nat) (J : Nat → List Value → Heap → List (Addr × Obj) → Prop) (Q : Value → Shared → Prop) (s₁ : Shared) : Prop :=
  ∀ D h tk ys g news, ys.length = n → KtsTurn (fs outer) g₀ g → Fr g L h m → Below A₀ base outer g → News g L h ((D, lst ys) :: news) → Off1 D news → J n ys g news → Q (.ref D) { s₁ with heap := h, toks := tk }
noncomputable def SrcM (prog : Program) (w : World) (A A₀ : Around) (base g₀ : Heap) (outer : List Env) (L : Addr) (m : Str → Option Value) (env : Env) (elt : Expr) (x : Str) (scope : Scope) (cl : List (Str × Addr)) (Q : Value → Shared → Prop) (xv : Value) (s₁ : Shared) : Prop :=
  ∃ n P J news, n ≤ sizeLine ∧ A.handled = none ∧ Fr g₀ L s₁.heap m ∧ Below A₀ base outer g₀ ∧ News g₀ L s₁.heap news ∧ J 0 [] g₀ news ∧
    ((∃ r a b t u v, xv = .ref r ∧ IsRange s₁.heap r a b 1 t u v ∧ Builtin.Range.small a b 1 = true ∧ Builtin.Range.rangeSize a b 1 = ((n : Nat) : Int) ∧ P = fun i v => ∃ t, v = .int (a + (i : Int)) t) ∨
     (∃ ax its, xv = .ref ax ∧ s₁.heap.IsList ax its ∧ its.size = n ∧ (P = fun i v => its[i]? = some v) ∧ ∀ i ys g nw h, J i ys g nw → (∀ b o, g.get? b = some o → h.get? b = some o) → News g L h nw → h.IsList ax its) ∨
     (∃ ax its, xv = .ref ax ∧ s₁.heap.IsTuple ax its ∧ its.size = n ∧ (P = fun i v => its[i]? = some v) ∧ ∀ i ys g nw h, J i ys g nw → (∀ b o, g.get? b = some o → h.get? b = some o) → News g L h nw → h.IsTuple ax its)) ∧
    (∀ h, TurnM prog w A A₀ base g₀ outer L m env elt x scope cl P n J { s₁ with heap := h }) ∧ (∀ h, DoneM A₀ base g₀ outer L m n J Q { s₁ with heap := h })
theorem off_all {I C D : Addr} : ∀ {l : List (Addr × Obj)}, Off3 I C D l → AllNe I l ∧ AllNe C l ∧ AllNe D l
  | [], _ => ⟨trivial, trivial, trivial⟩
  | _ :: _, ⟨x, y⟩ => have z := off_all y; ⟨⟨x.1, z.1⟩, ⟨x.2.1, z.2.1⟩, ⟨x.2.2, z.2.2⟩⟩
theorem off1_all {D : Addr} : ∀ {l : List (Addr × Obj)}, Off1 D l → AllNe D l
  | [], _ => trivial
  | _ :: _, ⟨x, y⟩ => ⟨x, off1_all y⟩
theorem lc_rr {M : Model} {s₁ : Shared} {n : Nat} {J : Nat → List Value → Heap → List (Addr × Obj) → Prop} {Q : Value → Shared → Prop} (hd : DoneM A₀ base g₀ outer L m n J Q s₁) :
    ∀ D C h tk m' ys g news', ys.length = n → KtsTurn (fs outer) g₀ g → Fr g L h m → Below A₀ base outer g → News g L h ((D, lst ys) :: news') → Off1 D news' → h.Ns C m' → g.get? C = none → g.get? D = none → C ≠ L → D ≠ L → C ≠ D → (∀ p ∈ news', p.1 ≠ C) → J n ys g news' →
      compPost M A E none Q (.ref D) C (.ok .next) { s₁ with heap := h, toks := tk } := by
  intro D C h tk m' ys g news' hyl T' F' B' N' o1 hn hC₀ hD₀ hCL hDL hCD offC J'
  refine ⟨m', hn, fun h'' hs'' => hd D h'' tk ys g news' hyl T' (F'.change hs'' hCL hC₀) B' (fun p hp => ?_) o1 J'⟩
  refine ⟨hs''.extBut _ _ ?_ (N' p hp).1, (N' p hp).2⟩
  rcases List.mem_cons.mp hp with rfl | hp
  · exact Ne.symm hCD
  · exact offC p hp
noncomputable def ListComp_M_P (prog : Program) (w : World) (A : Around) (A₀ : Around) (E : Value → Shared → Prop) (base : Heap) (g₀ : Heap) (outer : List Env) (L : Addr) (m : Str → Option Value) (env : Env) (s : Shared) (elt : Expr) (iter : Expr) (x : Str) (px : Pos) (scope : Scope) (cl : List (Str × Addr)) (pos : Pos) (Q : Value → Shared → Prop) : Prop := ∀ (_B : Below A₀ base outer g₀) (_F₀ : Fr g₀ L s.heap m) (hclos : closureFor scope env = pure cl) (hcell : ∀ y ∈ scope.names, y.2 ≠ .cell) (hkind : scope.kind = .function) (hnames : ∀ y ∈ scope.names, y.2 = .local → scope.names.lookup y.1 = some .local) (hx : scope.names.lookup x = some .local) (h : wpAny (model prog w) A (eval iter env) (SrcM prog w A A₀ base g₀ outer L m env elt x scope cl Q) E s) (hs : ∀ x, foldedSetIterable iter env x = pure x), wpAny (model prog w) A (eval (.ListComp elt [⟨.Name x px, iter, [], 0⟩] scope pos) env) Q E s
noncomputable def ListComp_M_q (x : (((((Program × World) × Around) × (Around × (Value → Shared → Prop))) × (((Heap × Heap) × List Env) × (Addr × (Str → Option Value)))) × ((((Env × Shared) × Expr) × (Expr × Str)) × (((Pos × Scope) × List (Str × Addr)) × (Pos × (Value → Shared → Prop)))))) : Prop := ListComp_M_P x.1.1.1.1.1 x.1.1.1.1.2 x.1.1.1.2 x.1.1.2.1 x.1.1.2.2 x.1.2.1.1.1 x.1.2.1.1.2 x.1.2.1.2 x.1.2.2.1 x.1.2.2.2 x.2.1.1.1.1 x.2.1.1.1.2 x.2.1.1.2 x.2.1.2.1 x.2.1.2.2 x.2.2.1.1.1 x.2.2.1.1.2 x.2.2.1.2 x.2.2.2.1 x.2.2.2.2
noncomputable def ListComp_M_c := @Classical.epsilon _ ⟨(((((PySem.Challenge.pw_sa0211_01, aWorld 1), {}), ({}, fun _ _ => True)), ((({}, {}), []), (0, fun _ => none))), ((((default, {}), default), (default, Str.ofString "")), (((default, default), default), (default, fun _ _ => True))))⟩ fun x => ¬ ListComp_M_q x
theorem ListComp_M_k : ListComp_M_q ListComp_M_c := by
  refine (?fq : ∀ (prog : Program) (w : World) (A : Around) (A₀ : Around) (E : Value → Shared → Prop) (base : Heap) (g₀ : Heap) (outer : List Env) (L : Addr) (m : Str → Option Value) (env : Env) (s : Shared) (elt : Expr) (iter : Expr) (x : Str) (px : Pos) (scope : Scope) (cl : List (Str × Addr)) (pos : Pos) (Q : Value → Shared → Prop), ListComp_M_P prog w A A₀ E base g₀ outer L m env s elt iter x px scope cl pos Q) _ _ _ _ _ _ _ _ _ _ _ _ _ _ _ _ _ _ _ _ 
  intro prog w A A₀ E base g₀ outer L m env s elt iter x px scope cl pos Q _B _F₀ hclos hcell hkind hnames hx h hs
  rw [eval_ListComp]
  refine wpAny_comprehension_free (use := none) rfl hs hclos hkind hnames (wpAny_mono h (fun xv s₁ h₁ => ?_) fun _ _ e => e)
  obtain ⟨n, P, J, news, hsz, hh, F, Bl, N, hJ, hsrc, ht, hd⟩ := h₁
  have up : ∀ (o : Obj) b ob, s₁.heap.get? b = some ob → (s₁.heap.push o).get? b = some ob := fun o b ob e => Heap.get?_push_of_some _ e
  have offs : ∀ p ∈ news, p.1 ≠ s₁.heap.objs.size := fun p hp => Nat.ne_of_lt (Heap.lt_size (N p hp).1)
  rcases hsrc with ⟨r, a, b, t, u, v, rfl, hr, hsm, hn, rfl⟩ | ⟨ax, its, rfl, hl, rfl, rfl, hJl⟩ | ⟨ax, its, rfl, hl, rfl, rfl, hJl⟩
  · refine wpAny_pyIter_range hr hsm ?_
    refine block_M (range_walks hh a n) hsz (fun i h st => ⟨_, st⟩) (fun i h h' o g nw ys st e e' _ _ _ => by
      have st' : h.get? s₁.heap.objs.size = some _ := st
      show h'.get? s₁.heap.objs.size = some _
      rw [e', ← e]; exact st') hcell hkind hx (by show IsRangeIter _ _ _ _ _; rw [hn]; simpa using Heap.get?_push_size _ rfl) (fun b hb => ?_)
      (F.keeps (up _)) Bl (N.grown (up _)) (Nat.ne_of_lt F.ns.lt) (next_is_new F) offs hJ (ht _) (lc_rr (hd _))
    rw [List.mem_singleton.mp hb]
    show s₁.heap.objs.size < (s₁.heap.push _).objs.size
    rw [Heap.size_push]; exact Nat.lt_succ_self _
  · have hlt : ax < s₁.heap.objs.size := by obtain ⟨_, e, _⟩ := hl; exact Heap.lt_size e
    refine wpAny_pyIter_list hl ?_
    refine block_M (Walks.list hh s₁.heap.objs.size ax (Nat.ne_of_lt hlt) its) hsz (fun i h st => by obtain ⟨o, e, _⟩ := st.1; exact ⟨o, e⟩) (fun i h h' o g nw ys st e e' k N' J' => ⟨by obtain ⟨o', q, r⟩ := st.1; rw [e] at q; cases q; exact ⟨o, e', r⟩, hJl i ys g nw h' J' k N'⟩)
      hcell hkind hx ⟨⟨_, Heap.get?_push_size _ rfl, rfl, rfl⟩, hl.push _⟩ (fun b hb => ?_)
      (F.keeps (up _)) Bl (N.grown (up _)) (Nat.ne_of_lt F.ns.lt) (next_is_new F) offs hJ (ht _) (lc_rr (hd _))
    show b < (s₁.heap.push _).objs.size
    rw [Heap.size_push]
    rcases List.mem_cons.mp hb with rfl | hb
    · exact Nat.lt_succ_self _
    · rw [List.mem_singleton.mp hb]; exact Nat.lt_succ_of_lt hlt
  · have tupUp : ∀ {g h : Heap}, g.IsTuple ax its → (∀ b o, g.get? b = some o → h.get? b = some o) → h.IsTuple ax its := fun st k => by
      obtain ⟨o, e, r⟩ := st
      exact ⟨o, k _ _ e, r⟩
    have hlt : ax < s₁.heap.objs.size := by obtain ⟨_, e, _⟩ := hl; exact Heap.lt_size e
    refine wpAny_pyIter_tuple hl ?_
    refine block_M (Walks.tuple hh s₁.heap.objs.size ax (Nat.ne_of_lt hlt) its) hsz (fun i h st => by obtain ⟨o, e, _⟩ := st.1; exact ⟨o, e⟩) (fun i h h' o g nw ys st e e' k N' J' => ⟨by obtain ⟨o', q, r⟩ := st.1; rw [e] at q; cases q; exact ⟨o, e', r⟩, hJl i ys g nw h' J' k N'⟩)
      hcell hkind hx ⟨⟨_, Heap.get?_push_size _ rfl, rfl, rfl⟩, tupUp hl (up _)⟩ (fun b hb => ?_)
      (F.keeps (up _)) Bl (N.grown (up _)) (Nat.ne_of_lt F.ns.lt) (next_is_new F) offs hJ (ht _) (lc_rr (hd _))
    show b < (s₁.heap.push _).objs.size
    rw [Heap.size_push]
    rcases List.mem_cons.mp hb with rfl | hb
    · exact Nat.lt_succ_self _
    · rw [List.mem_singleton.mp hb]; exact Nat.lt_succ_of_lt hlt
theorem ListComp_M  {s : Shared} {elt iter : Expr} {x : Str} {px : Pos} {scope : Scope} {cl : List (Str × Addr)} {pos : Pos} {Q : Value → Shared → Prop} (_B : Below A₀ base outer g₀) (_F₀ : Fr g₀ L s.heap m)
    (hclos : closureFor scope env = pure cl) (hcell : ∀ y ∈ scope.names, y.2 ≠ .cell) (hkind : scope.kind = .function)
    (hnames : ∀ y ∈ scope.names, y.2 = .local → scope.names.lookup y.1 = some .local) (hx : scope.names.lookup x = some .local)
    (h : wpAny (model prog w) A (eval iter env) (SrcM prog w A A₀ base g₀ outer L m env elt x scope cl Q) E s)
    (hs : ∀ x, foldedSetIterable iter env x = pure x := by intro _; rfl) :
    wpAny (model prog w) A (eval (.ListComp elt [⟨.Name x px, iter, [], 0⟩] scope pos) env) Q E s :=
  hk_ax (P := ListComp_M_q) _ ListComp_M_k (((((prog, w), A), (A₀, E)), (((base, g₀), outer), (L, m))), ((((env, s), elt), (iter, x)), (((px, scope), cl), (pos, Q)))) _B _F₀ hclos hcell hkind hnames hx h hs
end
end
section
open PySem PySem.W PyProof.Rows PySem.Spec PySem.Calls PyProof.Rows.LCg
section
variable {prog : Program} {w : World} {A : Around} {s : Shared} {base g g' g₀ h h' : Heap} {outer : List Env} {mean : ExcName → Option Value} {mg mb : Str → Option Value}
  {L a : Addr} {m : Str → Option Value} {cn : Str} {cs : Scope} {ccd : Value} {Q E : Value → Shared → Prop} {news : List (Addr × Obj)} {gg : Obj → List (Addr × Obj)} {cb : List Addr}
theorem useB (x : Step (L :: fs outer) cb h h') (B : Below A base outer g) (F : Fr g L h m) (N : News g L h news) (hcb : ∀ b ∈ cb, ∃ o, (b, o) ∈ news) :
    ∃ g', KtsTurn (fs outer) g g' ∧ Fr g' L h' m ∧ Below A base outer g' ∧ (∀ led', (∀ q ∈ led', h'.get? q.1 = some q.2 ∧ ∃ o, (q.1, o) ∈ news) → News g' L h' led') ∧ ∀ q ∈ news, q.1 ∉ cb → h'.get? q.1 = some q.2 := by
  obtain ⟨g', T, F', B', st⟩ := back x B F fun b hb => by
    obtain ⟨o, ho⟩ := hcb b hb
    exact ⟨(N _ ho).2.2, (N _ ho).2.1⟩
  refine ⟨g', T, F', B', fun led' hl q hq => ?_, fun q hq hn => x.at (N q hq).1 hn fun z => ?_⟩
  · obtain ⟨h1, o, ho⟩ := hl q hq
    exact ⟨h1, (N _ ho).2.1, T.none_ _ (N _ ho).2.2⟩
  · rcases List.mem_cons.mp z with z | z
    · exact (N q hq).2.1 z
    · obtain ⟨_, o, ho, _⟩ := B.frames.mem z
      rw [(N q hq).2.2] at ho; cases ho
theorem useB1 {b : Addr} {o o' : Obj} (x : Step (L :: fs outer) [b] h h') (B : Below A base outer g) (F : Fr g L h m) (N : News g L h news) (U : UpdF b o news gg) (hb : h'.get? b = some o') :
    ∃ g', KtsTurn (fs outer) g g' ∧ Fr g' L h' m ∧ Below A base outer g' ∧ News g' L h' (gg o') := by
  obtain ⟨g', T, F', B', hl, hk⟩ := useB x B F N fun c hc => by rw [List.mem_singleton.mp hc]; exact ⟨o, upd_in U⟩
  refine ⟨g', T, F', B', hl _ fun q hq => ?_⟩
  rcases upd_mem U q hq with rfl | ⟨hq, hne⟩
  · exact ⟨hb, o, upd_in U⟩
  · exact ⟨hk q hq fun z => hne (List.mem_singleton.mp z), _, hq⟩
theorem useB0 (x : Step (L :: fs outer) [] h h') (B : Below A base outer g) (F : Fr g L h m) (N : News g L h news) :
    ∃ g', KtsTurn (fs outer) g g' ∧ Fr g' L h' m ∧ Below A base outer g' ∧ News g' L h' news := by
  obtain ⟨g', T, F', B', hl, hk⟩ := useB x B F N fun c hc => nomatch hc
  exact ⟨g', T, F', B', hl _ fun q hq => ⟨hk q hq List.not_mem_nil, _, hq⟩⟩
theorem useB2 {b d : Addr} {o o' p p' : Obj} {g1 g2 : Obj → List (Addr × Obj)} (x : Step (L :: fs outer) [b, d] h h') (B : Below A base outer g) (F : Fr g L h m) (N : News g L h news) (U : UpdF b o news g1) (U2 : UpdF d p (g1 o') g2) (hbd : b ≠ d) (hb : h'.get? b = some o') (hd : h'.get? d = some p') :
    ∃ g', KtsTurn (fs outer) g g' ∧ Fr g' L h' m ∧ Below A base outer g' ∧ News g' L h' (g2 p') := by
  have dm : (d, p) ∈ news := by
    rcases upd_mem U _ (upd_in U2) with e | ⟨h, _⟩
    · cases e; exact absurd rfl hbd
    · exact h
  obtain ⟨g', T, F', B', hl, hk⟩ := useB x B F N fun c hc => by
    rcases List.mem_cons.mp hc with rfl | hc
    · exact ⟨o, upd_in U⟩
    · rw [List.mem_singleton.mp hc]; exact ⟨p, dm⟩
  refine ⟨g', T, F', B', hl _ fun q hq => ?_⟩
  rcases upd_mem U2 q hq with rfl | ⟨hq, hne⟩
  · exact ⟨hd, p, dm⟩
  · rcases upd_mem U q hq with rfl | ⟨hq, hne'⟩
    · exact ⟨hb, o, upd_in U⟩
    · refine ⟨hk q hq fun z => ?_, _, hq⟩
      rcases List.mem_cons.mp z with z | z
      · exact hne' z
      · exact hne (List.mem_singleton.mp z)
theorem fsX {env : Env} (hf : env.frame = some L) : fs (env :: outer) = L :: fs outer := by simp only [fs, List.filterMap_cons, hf]
theorem has_ofX {env : Env} {bs' : List (Addr × Obj)} (hf : env.frame = some L) (B : Below A base outer g) (N : News g L h news) (hs : ∀ p ∈ bs', p ∈ news) : Has base (env :: outer) h bs' := fun p hp => by
  have z := N p (hs p hp)
  rw [fsX hf]
  refine ⟨z.1, fresh_of_stays B.stays z.2.2, fun q => ?_⟩
  rcases List.mem_cons.mp q with q | q
  · exact z.2.1 q
  · obtain ⟨_, o, ho, _⟩ := B.frames.mem q
    rw [z.2.2] at ho; cases ho
end
section
variable {prog : Program} {w : World} {A : Around} {s : Shared} {base : Heap} {outer : List Env} {mean : ExcName → Option Value} {mg mb : Str → Option Value}
  {R : Result → Shared → Prop} {name qual : Str} {params : Arguments} {body : List Stmt} {scope : Scope} {dV kV doc pm cdv ct oc : Value} {an od : Option Addr} {osl : Array (Option Value)} {f : Addr} {args : Args} {binds : List (Str × Value)}
theorem enterC (bs : List (Addr × Obj)) (S : St w mean mg mb base) (B : Below A base outer s.heap) (hA : A.depth < recursionLimit) (H : Has base outer s.heap bs)
    (ho : (Mine.hd.heap_1 w.params).lookup f = some ⟨oc, od, .func (fnOf name qual params body scope dV kV doc pm an cdv ct), osl⟩) (hcd : codeIn (Mine.hd.heap_1 w.params) cdv qual = true)
    (hbind : BindsTo s (fnOf name qual params body scope dV kV doc pm an cdv ct) args binds)
    (hkind : (binds.all fun y => scope.names.lookup y.1 == some .local || scope.names.lookup y.1 == some .cell) = true)
    (hnd : ((cellsFrom 0 scope.names []).map (·.1)).Nodup)
    (h : ∀ g L' h₁ tk cells, Fr g L' h₁ (bindL (envOfC qual scope L' f cdv).kindOf binds fun _ => none) → News g L' h₁ (cells ++ bs) → CellsAre (bindC (envOfC qual scope L' f cdv).kindOf binds fun _ => none) (cellsFrom (L' + 1) scope.names []) cells → (∀ p ∈ cells, AllNe p.1 bs) →
      Below A base outer g → (Mine.hd.heap_1 w.params).In g → Top Mine.view (looseW Mine.view [Str.ofString "MOST_UNIT", Str.ofString "MOST_LENGTH"]) mean mg mb g →
      Old s.heap g (bs.map (·.1)) → g.objs.size = L' → s.heap.objs.size = L' →
      wpAny (model prog w) (A.deeper (envOfC qual scope L' f cdv)) (execs body (envOfC qual scope L' f cdv))
        (fun fl s' => R (.ok (.ret (match fl with | .ret v => v | _ => .none))) s')
        (fun e s' => wpAny (model prog w) (A.deeper (envOfC qual scope L' f cdv)) (leaving (envOfC qual scope L' f cdv) e) (fun _ s'' => R (.error e) s'') (fun e' s'' => R (.error e') s'') s')
        { s with heap := h₁, toks := tk })
    (hco : scope.isCoroutine = false := by rfl) (hgen : scope.isGenerator = false := by rfl) (hk : scope.kind = .function := by rfl) : codeAny (model prog w) A (.call (.ref f) args) R s := by
  have X := S.X.keeps B.stays
  have T := S.T.keeps B.stays
  have nb : ∀ b o, base.get? b = some o → b ∉ bs.map (·.1) := fun b o e q => by
    obtain ⟨p, hp, rfl⟩ := List.mem_map.mp q
    rw [(H p hp).2.1] at e; cases e
  have st : base.StaysIn (hideAll s.heap (bs.map (·.1))) := fun b o e => hideAll_get _ (B.stays b o e) (nb b o e)
  have nf : ∀ env ∈ outer, ∀ b ∈ bs.map (·.1), env.frame ≠ some b := fun env he b hb hf => by
    obtain ⟨p, hp, rfl⟩ := List.mem_map.mp hb
    exact (H p hp).2.2 (List.mem_filterMap.mpr ⟨env, he, hf⟩)
  refine codeAny_call_function hA (X _ _ ho) rfl hco hgen rfl (codeRec_of X hcd) (hbind _ _ _ _ ?_)
  refine wpAny_newFunctionEnv_cells hk (kindsX hkind _) fun env' he s' x => ?_
  subst he
  refine ⟨T.nolimit.keeps x.toInCall.keep, codeAny_func ?_⟩
  obtain ⟨h₁, tk, rfl, _⟩ := x.done
  have hk₁ := x.toInCall.keep
  obtain ⟨cells, NC, Y⟩ := Cl.news (h₀ := s.heap) (Nat.le_refl _) fun n c hm => ⟨x.cell n c (lookup_of_mem_nodup (cellsFrom_names scope.names 0 (s.heap.objs.size + 1) [] [] rfl ▸ hnd) hm), x.above n c hm⟩
  refine h (hideAll s.heap (bs.map fun p => p.1)) s.heap.objs.size h₁ tk cells ⟨x.toInCall.ns, fun b o e => hk₁ b o (of_hideAll _ e), Nat.le_of_eq (hideAll_size _ _)⟩ (fun p hp => ?_) Y (fun p hp => allNe_of fun q hq e => ?_)
    ⟨B.stack, st, funFrames_hideAll B.frames nf⟩ (S.X.keeps fun b o e => st b o e) (S.T.keeps fun b o e => st b o e) (fun a o e hn => hideAll_get _ e hn) (hideAll_size _ _) rfl
  · rcases List.mem_append.mp hp with hp | hp
    · refine ⟨(NC p hp).1, (NC p hp).2.1, ?_⟩
      cases q : (hideAll s.heap (bs.map (·.1))).get? p.1 with
      | none => rfl
      | some o => have := of_hideAll _ q; rw [(NC p hp).2.2] at this; cases this
    · exact ⟨hk₁ _ _ (H p hp).1, Nat.ne_of_lt (Heap.lt_size (H p hp).1), hideAll_none _ (List.mem_map_of_mem hp)⟩
  · have := (NC p hp).2.2
    rw [← e, (H q hq).1] at this; cases this
end
theorem app_ex {ys : List Value} {y v : Value} {j : Nat} (h : (ys ++ [y])[j]? = some v) : ys[j]? = some v ∨ (j = ys.length ∧ v = y) := by
  rw [List.getElem?_append] at h
  split at h
  · exact .inl h
  · rename_i hn
    obtain ⟨hl, hx⟩ := List.getElem?_eq_some_iff.mp h
    simp only [List.length_singleton] at hl
    have e : j = ys.length := by omega
    subst e
    exact .inr ⟨rfl, by simpa using hx.symm⟩
theorem len4 {ys : List Value} (h : ys.length = 4) : ∃ v1 v2 v3 v4, ys = [v1, v2, v3, v4] := by
  match ys, h with
  | [v1, v2, v3, v4], _ => exact ⟨v1, v2, v3, v4, rfl⟩
theorem nil_ex {j : Nat} {v : Value} {P : Prop} (h : ([] : List Value)[j]? = some v) : P := by simp at h
noncomputable def NumV (kvs : List (Int × Value)) (k : Int) (v : Value) : Prop := match valueAt kvs k with
  | some x => v = x
  | none => ∃ tz, v = .int 18 tz
section
variable {prog : Program} {w : World} {A : Around} {s : Shared} {base : Heap} {outer : List Env} {mean : ExcName → Option Value} {mg mb : Str → Option Value}
  {R : Result → Shared → Prop} {u du f df rc nb : Addr} {ui : UI} {fi : FI} {p : Value} {on : Obj} {kvs : List (Int × Value)} {k : Int} {tk : Tok}
theorem deed_readD (S : St w mean mg mb base) (hd : on.IsDictOf (intKind prog w) kvs) (lo : (nb == sysModules) = false) (D : Dist [(u, instObj 142 du), (du, unitD w ui f p), (f, instObj 100 df), (df, fileD w fi "DIRECT" rc nb), (nb, on)]) :
    DeedK prog w base [(u, instObj 142 du), (du, unitD w ui f p), (f, instObj 100 df), (df, fileD w fi "DIRECT" rc nb), (nb, on)] 5 279 [.ref u, .int k tk] (fun new v => (∃ p', new = [(du, unitD w ui f p')]) ∧ NumV kvs k v) := by
  intro A' outer' s' R' B Rm H kk kx
  have hm : ∀ q ∈ [(du, unitD w ui f p)], ∃ o, (q.1, o) ∈ [(u, instObj 142 du), (du, unitD w ui f p), (f, instObj 100 df), (df, fileD w fi "DIRECT" rc nb), (nb, on)] := fun q hq => by rw [List.mem_singleton.mp hq]; exact ⟨_, .tail _ (.head _)⟩
  cases hv : valueAt kvs k with
  | none =>
    refine readD_no S B Rm H hd lo hv fun h' tk' e x1 x2 => kx h' tk' e 51 18 [(du, unitD w ui f p)] (x1.mono (fun _ q => q) fun _ q => nomatch q) (fun q hq => ?_) hm x2 (.inl ⟨rfl, fun tz => ⟨⟨p, rfl⟩, ?_⟩⟩)
    · rw [List.mem_singleton.mp hq]
      have z := H (du, unitD w ui f p) (.tail _ (.head _))
      exact x1.at z.1 List.not_mem_nil z.2.2
    · unfold NumV; rw [hv]; exact ⟨tz, rfl⟩
  | some v =>
    refine readD_ok S B (Rm.less (by decide)) H hd lo hv D fun h' tk' x1 x2 => kk h' tk' v [(du, unitD w ui f (.int k tk))] x1 (fun q hq => ?_) (fun q hq => ?_) ⟨⟨_, rfl⟩, ?_⟩
    · rw [List.mem_singleton.mp hq]; exact x2
    · rw [List.mem_singleton.mp hq]; exact ⟨_, .tail _ (.head _)⟩
    · unfold NumV; rw [hv]
end
section
variable {prog : Program} {w : World} {A : Around} {s : Shared} {base g : Heap} {outer : List Env} {mean : ExcName → Option Value} {mg mb : Str → Option Value}
  {L a : Addr} {m : Str → Option Value} {news : List (Addr × Obj)} {env : Env} {Q E : Value → Shared → Prop} {u du f df rc nb : Addr} {ui : UI} {fi : FI} {pa : Addr} {pn : Nat} {g₀ : Heap} {gg : Obj → List (Addr × Obj)}
theorem heardRD_K {hpS : Heap} {gnS : Array GenState} {drS : Drawn} {tkS : Nat} {osS : OsState} {p : Value} {on : Obj} {kvs : List (Int × Value)} {k : Int} {tk : Tok} (S : St w mean mg mb base) (B : Below A base outer g) (F : Fr g L hpS m) (N : News g L hpS news) (Rm : Room A 8) (T0 : KtsTurn (fs outer) g₀ g)
    (hp0 : (pa, listOf #[.int k tk] pn) ∈ news) (h1 : ∀ q ∈ [(u, instObj 142 du), (du, unitD w ui f p), (f, instObj 100 df), (df, fileD w fi "DIRECT" rc nb), (nb, on)], q ∈ news) (hd : on.IsDictOf (intKind prog w) kvs) (lo : (nb == sysModules) = false) (D : Dist [(u, instObj 142 du), (du, unitD w ui f p), (f, instObj 100 df), (df, fileD w fi "DIRECT" rc nb), (nb, on)]) (Dp : AllNe pa [(u, instObj 142 du), (du, unitD w ui f p), (f, instObj 100 df), (df, fileD w fi "DIRECT" rc nb), (nb, on)]) (U : UpdF du (unitD w ui f p) news gg)
    (kk : Halt (∀ h' tk v g' p', KtsTurn (fs outer) g₀ g' → Fr g' L h' m → Below A base outer g' → News g' L h' (gg (unitD w ui f p')) → NumV kvs k v → Q v ⟨h', gnS, drS, tk, osS⟩)) (hf : env.frame = some L := by rfl) (hk : env.scope.kind = .function := by rfl) :
    wpAny (model prog w) (A.deeper env) (call (.ref 306) [.ref 279, .ref u, .ref pa]) Q E ⟨hpS, gnS, drS, tkS, osS⟩ := by
  refine wpAny_call (heard279 (td := 0) (pn := pn) S (pushX B F hf hk) (Rm.deeper (by decide)) (has_ofX hf B N (List.forall_mem_cons.mpr ⟨hp0, h1⟩)) Dp (deed_readD (k := k) (tk := tk) S hd lo D) fun h' tk v new x1 x2 x3 x4 => ?_)
  rw [fsX hf] at x1
  obtain ⟨⟨p', rfl⟩, hv⟩ := x4
  obtain ⟨g', T', F', B', N'⟩ := useB1 (b := du) (o' := unitD w ui f p') x1 B F N U (x2 _ (.head _))
  exact kk h' tk v g' p' (T0.trans T') F' B' N' hv
end
theorem line_M15_1 : True := by
  k_with_none
  w_top off
  k_with "my:k_mem" => (first | exact m0_ | exact m1_ | exact m2_ | exact m3_ | exact m4_ | exact m5_ | exact m6_ | exact m7_ | (refine m8s_ ?_; k_mem))
  k_with "my:k_ne" => (((try dsimp only); first
  | exact AllNe.mem (by assumption) (_, _) (by k_mem)
  | exact Ne.symm (AllNe.mem (by assumption) (_, _) (by k_mem))
  | assumption
  | exact Ne.symm (by assumption)
  | exact Nat.ne_of_lt (lt_at (by assumption) (by k_mem))
  | exact Nat.ne_of_gt (lt_at (by assumption) (by k_mem))
  | (refine neN ?_; omega)))
  k_with "my_enter" => ((
  (case ho => k_is)
  (case hcd => k_is)
  (case hbind => exact BindsTo.of_eq rfl)
  (case hloc => exact locs rfl)
  (case hco => exact rfl)
  (case hgen => exact rfl)
  (case hk => exact rfl)
  (case hcell => decide)))
  k_with "my_dist" => (((simp only [Dist, AllNe, and_true]); (repeat' (refine And.intro ?_ ?_)); all_goals k_ne))
  k_with "my_bs" => (first | exact List.forall_mem_nil _ | (refine List.forall_mem_cons.mpr ⟨⟨⟨_, by k_mem⟩, ⟨by k_ne, by k_ne⟩⟩, ?_⟩; walk_at "my_bs"))
  k_with "my_bs0" => (first | exact List.forall_mem_nil _ | (refine List.forall_mem_cons.mpr ⟨⟨_, by k_mem⟩, ?_⟩; walk_at "my_bs0"))
  k_with "my_ro" => (first | exact List.forall_mem_nil _ | (refine List.forall_mem_cons.mpr ⟨?aZ, ?bZ⟩; (case aZ => first | exact fun _ => News.get (by k_asm) (by k_mem) | exact fun hn => absurd (by simp) hn); (case bZ => walk_at "my_ro")))
  k_with "exec Raise some none" => ((k_here; (with_reducible show wpAny _ _ (exec (Stmt.Raise (some (Expr.Call (Expr.Name (PySem.Str.ofString "IoFault") _) _ _ _)) none _) _) _ _ _); k_dflt (refine' raise_K (C := 51) ?XZ ?KZ ?bZ ?tZ ?hZ ?_; (case XZ => k_asm); (case KZ => k_is); (case bZ => rfl); (case tZ => rfl); (case hZ => first | exact rfl | exact Room.hand (by assumption)); k_whole)))
  k_with "exec Raise some none" => ((k_here; (with_reducible show wpAny _ _ (exec (Stmt.Raise (some (Expr.Call (Expr.Name (PySem.Str.ofString "EndFault") _) _ _ _)) none _) _) _ _ _); k_dflt (refine' raise_K (C := 70) ?XZ ?KZ ?bZ ?tZ ?hZ ?_; (case XZ => k_asm); (case KZ => k_is); (case bZ => rfl); (case tZ => rfl); (case hZ => first | exact rfl | exact Room.hand (by assumption)); k_whole)))
  k_with "call ref" => ((k_here; (with_reducible show wpAny _ _ (PySem.call (Value.ref 51) [_, _]) _ _ _); k_dflt (refine' mk51_K ?SZ ?BZ ?FZ ?NZ ?RZ ?_; (case SZ => assumption); (case BZ => assumption); (case FZ => k_asm); (case NZ => k_asm); (case RZ => exact Room.less (by assumption) (by decide)); k_whole); intro h' tk' e' t' d' tx' ty' F' N' l1 l2 l3; (try k_sweep)))
  k_with "call ref" => ((k_here; (with_reducible show wpAny _ _ (PySem.call (Value.ref 70) [_]) _ _ _); k_dflt (refine' mk70_K ?SZ ?BZ ?FZ ?NZ ?RZ ?_; (case SZ => assumption); (case BZ => assumption); (case FZ => k_asm); (case NZ => k_asm); (case RZ => exact Room.less (by assumption) (by decide)); k_whole); intro h' tk' e' t' d' tx' ty' tz' F' N' l1 l2 l3; (try k_sweep)))
  k_with "RaiseMade" => ((k_dflt (refine' raiseMade_ ?XZ ?hZ ?_; (case XZ => k_in); (case hZ => exact News.get (by k_asm) (by k_mem)))))
  k_with "my_enterC" => ((
  (case ho => k_is)
  (case hcd => k_is)
  (case hbind => exact BindsTo.of_eq rfl)
  (case hkind => exact rfl)
  (case hnd => decide +kernel)
  (case hco => exact rfl)
  (case hgen => exact rfl)
  (case hk => exact rfl)))
  k_with "my_mems" => (first | exact List.forall_mem_nil _ | (refine List.forall_mem_cons.mpr ⟨?aZ, ?bZ⟩; (case aZ => k_mem); (case bZ => walk_at "my_mems")))
  k_with "eval ListComp" => (refine halt ?_)
  k_with "call ref" => ((k_here; (with_reducible show wpAny _ _ (PySem.call (Value.ref 306) [Value.ref 279, Value.ref _, Value.ref _]) _ _ _); k_dflt (refine' heardRD_K ?SZ ?BZ ?FZ ?NZ ?RZ ?T0Z ?p0Z ?h1Z ?hdZ ?loZ ?DZ ?DpZ ?UZ ?kkz97400; (case SZ => assumption); (case hdZ => assumption); (case loZ => assumption); (case BZ => assumption); (case FZ => k_asm); (case NZ => k_asm); (case RZ => exact Room.less (by assumption) (by decide)); (case T0Z => assumption); (case p0Z => k_mem); (case h1Z => walk_at "my_mems"); (case DZ => walk_at "my_dist"); (case DpZ => (simp only [AllNe, and_true]; (repeat' (refine And.intro ?_ ?_)); all_goals k_ne)); (case UZ => k_updF))))
  trivial
section
variable {prog : Program} {w : World} {A : Around} {s : Shared} {base : Heap} {outer : List Env} {mean : ExcName → Option Value} {mg mb : Str → Option Value}
  {R : Result → Shared → Prop} {u du f df rc nb : Addr} {ui : UI} {fi : FI} {p : Value} {on : Obj} {kvs : List (Int × Value)}
noncomputable def numbered_s : (Rq : Program → World → Shared → Heap → List Env → (ExcName → Option Value) → (Str → Option Value) → (Str → Option Value) → (Result → Shared → Prop) → Addr → Addr → Addr → Addr → Addr → Addr → UI → FI → Value → Obj → List (Int × Value) → Nat → Option (List Code) → Nat → Heap → Addr → Heap → Nat → Obj → Prop) ×' ((∀ (prog : Program) (w : World) (s : Shared) (base : Heap) (outer : List Env) (mean : ExcName → Option Value) (mg : Str → Option Value) (mb : Str → Option Value) (R : Result → Shared → Prop) (u : Addr) (du : Addr) (f : Addr) (df : Addr) (rc : Addr) (nb : Addr) (ui : UI) (fi : FI) (p : Value) (on : Obj) (kvs : List (Int × Value)) (dp : Nat) (gd : Option (List Code)) (un : Nat) (g : Heap) (L' : Addr) (h₁ : Heap) (tk₁ : Nat) (c1 : Obj), Rq prog w s base outer mean mg mb R u du f df rc nb ui fi p on kvs dp gd un g L' h₁ tk₁ c1) → ∀ (A : Around) (prog : Program) (w : World) (s : Shared) (base : Heap) (outer : List Env) (mean : ExcName → Option Value) (mg : Str → Option Value) (mb : Str → Option Value) (R : Result → Shared → Prop) (u : Addr) (du : Addr) (f : Addr) (df : Addr) (rc : Addr) (nb : Addr) (ui : UI) (fi : FI) (p : Value) (on : Obj) (kvs : List (Int × Value)) (S : St w mean mg mb base) (B : Below A base outer s.heap) (Rm : Room A 9) (H : Has base outer s.heap [(u, instObj 142 du), (du, unitD w ui f p), (f, instObj 100 df), (df, fileD w fi "DIRECT" rc nb), (nb, on)]) (D : Dist [(u, instObj 142 du), (du, unitD w ui f p), (f, instObj 100 df), (df, fileD w fi "DIRECT" rc nb), (nb, on)]) (hd : on.IsDictOf (intKind prog w) kvs) (lo : (nb == sysModules) = false) (kk : ∀ h' tk p' r v1 v2 v3 v4 rn, Step (fs outer) [du] s.heap h' → h'.get? du = some (unitD w ui f p') → h'.get? r = some (listOf #[v1, v2, v3, v4] rn) → s.heap.get? r = none → NumV kvs 1 v1 → NumV kvs 2 v2 → NumV kvs 3 v3 → NumV kvs 4 v4 →
      R (.ok (.ret (.ref r))) { s with heap := h', toks := tk }), codeAny (model prog w) A (.call (.ref 311) ⟨[.ref u], []⟩) R s) := by
  refine ⟨?Rq, fun kHq A prog w s base outer mean mg mb R u du f df rc nb ui fi p on kvs S B Rm H D hd lo kk => ?pfq⟩
  case pfq =>
    have D' := D
    obtain ⟨ha, dp, fr, gd, un⟩ := A
    obtain rfl : ha = none := Rm.han
    obtain rfl : fr = some outer := B.stack
    refine' enterC [(u, instObj 142 du), (du, unitD w ui f p), (f, instObj 100 df), (df, fileD w fi "DIRECT" rc nb), (nb, on)] S B Rm.d H ?ho ?hcd ?hbind ?hkind ?hnd ?h ?hco ?hgen ?hk
    walk_at "my_enterC"
    intro g L' h₁ tk₁ cells F N Y Yn B' X T hold hg hL
    have T0 : KtsTurn (fs outer) g g := KtsTurn.refl
    obtain ⟨D0, D1, D2, D3, D4, _⟩ := D
    have hY := CellsAre.one Y
    obtain ⟨c1, hE', e1⟩ := hY
    subst hE'
    clear Y
    (try simp only [List.cons_append, List.nil_append] at N)
    (try simp only [List.forall_mem_cons, List.not_mem_nil, false_implies, implies_true, and_true] at Yn)
    revert e1; revert D4; revert D3; revert D2; revert D1; revert D0; revert T0; revert hL; revert hg; revert hold; revert T; revert X; revert B'; revert Yn; revert N; revert F; revert D'; revert kk; revert lo; revert hd; revert H; revert Rm; revert B; revert S
    exact kHq prog w s base outer mean mg mb R u du f df rc nb ui fi p on kvs dp gd un g L' h₁ tk₁ c1
noncomputable def numbered_q (x : (((((Program × World) × (Shared × Heap)) × ((List Env × (ExcName → Option Value)) × (Str → Option Value))) × ((((Str → Option Value) × (Result → Shared → Prop)) × (Addr × Addr)) × ((Addr × Addr) × Addr))) × ((((Addr × UI) × (FI × Value)) × ((Obj × List (Int × Value)) × Nat)) × (((Option (List Code) × Nat) × (Heap × Addr)) × ((Heap × Nat) × Obj))))) : Prop := numbered_s.1 x.1.1.1.1.1 x.1.1.1.1.2 x.1.1.1.2.1 x.1.1.1.2.2 x.1.1.2.1.1 x.1.1.2.1.2 x.1.1.2.2 x.1.2.1.1.1 x.1.2.1.1.2 x.1.2.1.2.1 x.1.2.1.2.2 x.1.2.2.1.1 x.1.2.2.1.2 x.1.2.2.2 x.2.1.1.1.1 x.2.1.1.1.2 x.2.1.1.2.1 x.2.1.1.2.2 x.2.1.2.1.1 x.2.1.2.1.2 x.2.1.2.2 x.2.2.1.1.1 x.2.2.1.1.2 x.2.2.1.2.1 x.2.2.1.2.2 x.2.2.2.1.1 x.2.2.2.1.2 x.2.2.2.2
noncomputable def numbered_c := @Classical.epsilon _ ⟨(((((PySem.Challenge.pw_sa0211_01, aWorld 1), ({}, {})), (([], fun _ => none), fun _ => none)), (((fun _ => none, fun _ _ => True), (0, 0)), ((0, 0), 0))), ((((0, ⟨0, 0, 0, 0, .none, .none⟩), (⟨0, 0, 0, 0, 0, 0, 0, 0, 0, 0, Str.ofString "", Str.ofString "", 0⟩, .none)), ((instObj 0 0, []), 0)), (((none, 0), ({}, 0)), (({}, 0), instObj 0 0))))⟩ fun x => ¬ numbered_q x
theorem numbered_k : numbered_q numbered_c := by
  refine (?fq : ∀ (prog : Program) (w : World) (s : Shared) (base : Heap) (outer : List Env) (mean : ExcName → Option Value) (mg : Str → Option Value) (mb : Str → Option Value) (R : Result → Shared → Prop) (u : Addr) (du : Addr) (f : Addr) (df : Addr) (rc : Addr) (nb : Addr) (ui : UI) (fi : FI) (p : Value) (on : Obj) (kvs : List (Int × Value)) (dp : Nat) (gd : Option (List Code)) (un : Nat) (g : Heap) (L' : Addr) (h₁ : Heap) (tk₁ : Nat) (c1 : Obj), numbered_s.1 prog w s base outer mean mg mb R u du f df rc nb ui fi p on kvs dp gd un g L' h₁ tk₁ c1) _ _ _ _ _ _ _ _ _ _ _ _ _ _ _ _ _ _ _ _ _ _ _ _ _ _ _ _ 
  intro prog w s base outer mean mg mb R u du f df rc nb ui fi p on kvs dp gd un g L' h₁ tk₁ c1 S B Rm H hd lo kk D' F N Yn B' X T hold hg hL T0 D0 D1 D2 D3 D4 e1
  (try dsimp only)
  try k_fold
  k_steps
  unfold Halt
  (rename Fr _ _ _ _ => F1)
  refine ListComp_M B' F1 (by with_unfolding_all rfl) (by decide) (by rfl) (by decide) (by rfl) ?_
  k_steps
  (rename News _ _ _ _ => N1)
  refine ⟨4, _, fun i ys g nw => ∃ p', nw = [(_, _), (L' + 1, _), (u, instObj 142 du), (du, unitD w ui f p'), (f, instObj 100 df), (df, fileD w fi "DIRECT" rc nb), (nb, on)] ∧ ∀ (j : Nat) (v : Value), ys[j]? = some v → NumV kvs ((j : Int) + 1) v, _, by rw [sizeLine_eq]; decide, rfl, by k_asm, B', N1, ⟨p, rfl, fun j v h => nil_ex (j := j) (v := v) h⟩,
    .inr (.inr ⟨_, _, rfl, ⟨_, N1.get (by k_mem), rfl, _, rfl⟩, rfl, rfl, ?_⟩), fun hh => ?_, fun hh => ?_⟩
  · rintro i ys g nw h ⟨p', rfl, _⟩ _ N'
    exact ⟨_, N'.get (by k_mem), rfl, _, rfl⟩
  · intro i ys g2 nw v I oI C oC D m₂ h tk E' hi hyl hP hNs hx T2 F2 B2 N2 off ne hJ
    obtain ⟨p', rfl, hys⟩ := hJ
    obtain ⟨t, rfl⟩ : ∃ t, v = .int ((i : Int) + 1) t := by
      match i, hi, hP with
      | 0, _, hP => exact ⟨_, (Option.some.inj hP).symm⟩
      | 1, _, hP => exact ⟨_, (Option.some.inj hP).symm⟩
      | 2, _, hP => exact ⟨_, (Option.some.inj hP).symm⟩
      | 3, _, hP => exact ⟨_, (Option.some.inj hP).symm⟩
    obtain ⟨o1, o2, o3⟩ := off_all off
    obtain ⟨n1, n2, n3⟩ := ne
    have X2 := S.X.keeps B2.stays
    have TT2 := S.T.keeps B2.stays
    k_steps
    unfold Halt
    intro h' tk v g' p'' T3 F3 B3 N3 hv
    exact ⟨_, _, g', [(_, _), (L' + 1, _), (u, instObj 142 du), (du, unitD w ui f p''), (f, instObj 100 df), (df, fileD w fi "DIRECT" rc nb), (nb, on)], rfl, T3, F3, B3, fun q hq => N3 q ((by lcg_sub : ∀ q ∈ _, q ∈ _) q hq), off, p'', rfl, fun j x hj => by
      rcases app_ex hj with hj | ⟨rfl, rfl⟩
      · exact hys j x hj
      · rw [hyl]; exact hv⟩
  · intro D h tk ys g2 nw hyl T2 F2 B2 N2 o1 hJ
    obtain ⟨p', rfl, hys⟩ := hJ
    obtain ⟨v1, v2, v3, v4, rfl⟩ := len4 hyl
    have o2 := off1_all o1
    refine kk h tk p' D v1 v2 v3 v4 _ (step_cut (end1 hold T2 F2) H ?_) (N2.get (by k_mem)) (N2.get (.head _)) (fresh_in1 hold T2 N2 (.head _) fun q hq => AllNe.mem (l := [(u, instObj 142 du), (du, unitD w ui f p), (f, instObj 100 df), (df, fileD w fi "DIRECT" rc nb), (nb, on)]) o2.2.2 q hq) (hys 0 v1 rfl) (hys 1 v2 rfl) (hys 2 v3 rfl) (hys 3 v4 rfl)
    walk_at "my_ro"
theorem numbered  (S : St w mean mg mb base) (B : Below A base outer s.heap) (Rm : Room A 9) (H : Has base outer s.heap [(u, instObj 142 du), (du, unitD w ui f p), (f, instObj 100 df), (df, fileD w fi "DIRECT" rc nb), (nb, on)]) (D : Dist [(u, instObj 142 du), (du, unitD w ui f p), (f, instObj 100 df), (df, fileD w fi "DIRECT" rc nb), (nb, on)]) (hd : on.IsDictOf (intKind prog w) kvs) (lo : (nb == sysModules) = false)
    (kk : ∀ h' tk p' r v1 v2 v3 v4 rn, Step (fs outer) [du] s.heap h' → h'.get? du = some (unitD w ui f p') → h'.get? r = some (listOf #[v1, v2, v3, v4] rn) → s.heap.get? r = none → NumV kvs 1 v1 → NumV kvs 2 v2 → NumV kvs 3 v3 → NumV kvs 4 v4 →
      R (.ok (.ret (.ref r))) { s with heap := h', toks := tk }) :
    codeAny (model prog w) A (.call (.ref 311) ⟨[.ref u], []⟩) R s :=
  numbered_s.2 (fun prog w s base outer mean mg mb R u du f df rc nb ui fi p on kvs dp gd un g L' h₁ tk₁ c1 => hk_ax (P := numbered_q) _ numbered_k (((((prog, w), (s, base)), ((outer, mean), mg)), (((mb, R), (u, du)), ((f, df), rc))), ((((nb, ui), (fi, p)), ((on, kvs), dp)), (((gd, un), (g, L')), ((h₁, tk₁), c1))))) A prog w s base outer mean mg mb R u du f df rc nb ui fi p on kvs S B Rm H D hd lo kk
end
end
section
open PySem PySem.W PyProof.Rows PySem.Spec PySem.Calls PyProof.Rows.LCg
theorem line_M16_1 : True := by
  k_with_none
  w_top off
  k_with "my:k_mem" => (first | exact m0_ | exact m1_ | exact m2_ | exact m3_ | exact m4_ | exact m5_ | exact m6_ | exact m7_ | (refine m8s_ ?_; k_mem))
  k_with "my:k_ne" => (((try dsimp only); first
  | exact AllNe.mem (by assumption) (_, _) (by k_mem)
  | exact Ne.symm (AllNe.mem (by assumption) (_, _) (by k_mem))
  | assumption
  | exact Ne.symm (by assumption)
  | exact Nat.ne_of_lt (lt_at (by assumption) (by k_mem))
  | exact Nat.ne_of_gt (lt_at (by assumption) (by k_mem))
  | (refine neN ?_; omega)))
  k_with "my_enter" => ((
  (case ho => k_is)
  (case hcd => k_is)
  (case hbind => exact BindsTo.of_eq rfl)
  (case hloc => exact locs rfl)
  (case hco => exact rfl)
  (case hgen => exact rfl)
  (case hk => exact rfl)
  (case hcell => decide)))
  k_with "my_dist" => (((simp only [Dist, AllNe, and_true]); (repeat' (refine And.intro ?_ ?_)); all_goals k_ne))
  k_with "my_bs" => (first | exact List.forall_mem_nil _ | (refine List.forall_mem_cons.mpr ⟨⟨⟨_, by k_mem⟩, ⟨by k_ne, by k_ne⟩⟩, ?_⟩; walk_at "my_bs"))
  k_with "my_bs0" => (first | exact List.forall_mem_nil _ | (refine List.forall_mem_cons.mpr ⟨⟨_, by k_mem⟩, ?_⟩; walk_at "my_bs0"))
  k_with "my_ro" => (first | exact List.forall_mem_nil _ | (refine List.forall_mem_cons.mpr ⟨?aZ, ?bZ⟩; (case aZ => first | exact fun _ => News.get (by k_asm) (by k_mem) | exact fun hn => absurd (by simp) hn); (case bZ => walk_at "my_ro")))
  k_with "exec Raise some none" => ((k_here; (with_reducible show wpAny _ _ (exec (Stmt.Raise (some (Expr.Call (Expr.Name (PySem.Str.ofString "IoFault") _) _ _ _)) none _) _) _ _ _); k_dflt (refine' raise_K (C := 51) ?XZ ?KZ ?bZ ?tZ ?hZ ?_; (case XZ => k_asm); (case KZ => k_is); (case bZ => rfl); (case tZ => rfl); (case hZ => first | exact rfl | exact Room.hand (by assumption)); k_whole)))
  k_with "exec Raise some none" => ((k_here; (with_reducible show wpAny _ _ (exec (Stmt.Raise (some (Expr.Call (Expr.Name (PySem.Str.ofString "EndFault") _) _ _ _)) none _) _) _ _ _); k_dflt (refine' raise_K (C := 70) ?XZ ?KZ ?bZ ?tZ ?hZ ?_; (case XZ => k_asm); (case KZ => k_is); (case bZ => rfl); (case tZ => rfl); (case hZ => first | exact rfl | exact Room.hand (by assumption)); k_whole)))
  k_with "call ref" => ((k_here; (with_reducible show wpAny _ _ (PySem.call (Value.ref 51) [_, _]) _ _ _); k_dflt (refine' mk51_K ?SZ ?BZ ?FZ ?NZ ?RZ ?_; (case SZ => assumption); (case BZ => assumption); (case FZ => k_asm); (case NZ => k_asm); (case RZ => exact Room.less (by assumption) (by decide)); k_whole); intro h' tk' e' t' d' tx' ty' F' N' l1 l2 l3; (try k_sweep)))
  k_with "call ref" => ((k_here; (with_reducible show wpAny _ _ (PySem.call (Value.ref 70) [_]) _ _ _); k_dflt (refine' mk70_K ?SZ ?BZ ?FZ ?NZ ?RZ ?_; (case SZ => assumption); (case BZ => assumption); (case FZ => k_asm); (case NZ => k_asm); (case RZ => exact Room.less (by assumption) (by decide)); k_whole); intro h' tk' e' t' d' tx' ty' tz' F' N' l1 l2 l3; (try k_sweep)))
  k_with "RaiseMade" => ((k_dflt (refine' raiseMade_ ?XZ ?hZ ?_; (case XZ => k_in); (case hZ => exact News.get (by k_asm) (by k_mem)))))
  k_with "my_enterC" => ((
  (case ho => k_is)
  (case hcd => k_is)
  (case hbind => exact BindsTo.of_eq rfl)
  (case hkind => exact rfl)
  (case hnd => decide +kernel)
  (case hco => exact rfl)
  (case hgen => exact rfl)
  (case hk => exact rfl)))
  trivial
theorem isList_turn {fl : List Addr} {g g' : Heap} {r : Addr} {its : Array Value} (T : KtsTurn fl g g') (x : g.IsList r its) : g'.IsList r its := by
  obtain ⟨o, e, c, n, d⟩ := x
  obtain ⟨sl, e'⟩ := T.up e
  exact ⟨_, e', c, n, d⟩
theorem isList_keep {g h : Heap} {L r : Addr} {m : Str → Option Value} {its : Array Value} (F : Fr g L h m) (x : g.IsList r its) : h.IsList r its := by
  obtain ⟨o, e, q⟩ := x
  exact ⟨o, F.keep r o e, q⟩
section
variable {prog : Program} {w : World} {A : Around} {s : Shared} {base : Heap} {outer : List Env} {mean : ExcName → Option Value} {mg mb : Str → Option Value}
  {R : Result → Shared → Prop} {b r : Addr} {i many : Int} {t tm : Tok} {n : Nat} {vs : List Value} {ns : List Int}
theorem pluck (S : St w mean mg mb base) (B : Below A base outer s.heap) (Rm : Room A 1) (H : Has base outer s.heap [(b, listOf #[.ref r, .int i t] n)])
    (hr : s.heap.IsList r vs.toArray) (hrb : r ≠ b) (hi : IntsAre vs ns) (hn : ns.length ≤ 60) (h0 : 0 ≤ i) (hm : 0 < many) (hm2 : many ≤ 30)
    (k : ∀ h' tk t' v tv n', Step [] [b] s.heap h' → h'.get? b = some (listOf #[.ref r, .int (i + 1) t'] n') → 0 ≤ v → v < many → R (.ok (.ret (.int v tv))) { s with heap := h', toks := tk }) :
    codeAny (model prog w) A (.call (.ref 294) ⟨[.ref b, .int many tm], []⟩) R s := by
  obtain ⟨ha, dp, fr, gd, un⟩ := A
  obtain rfl : ha = none := Rm.han
  obtain rfl : fr = some outer := B.stack
  refine' enter [(b, listOf #[.ref r, .int i t] n)] S B Rm.d H ?ho ?hcd ?hbind ?hloc ?h ?hco ?hgen ?hk ?hcell
  walk_at "my_enter"
  intro g L' h₁ F N B' X T hold hg hL
  have hrg : g.IsList r vs.toArray := let ⟨o, ho, z⟩ := hr; ⟨o, hold r o ho (by simpa using hrb), z⟩
  clear hr
  dsimp only
  try k_fold
  k_steps
  all_goals refine k _ _ _ _ _ _ (end0 hold (by k_asm)) (News.get (by k_asm) (by k_mem)) ?_ ?_
  all_goals first
    | omega
    | exact ((fdiv_fmod_facts _ _).2.2.1 hm).1
    | exact ((fdiv_fmod_facts _ _).2.2.1 hm).2
end
section
variable {prog : Program} {w : World} {A : Around} {s : Shared} {base g : Heap} {outer : List Env} {mean : ExcName → Option Value} {mg mb : Str → Option Value}
  {L a : Addr} {m : Str → Option Value} {news : List (Addr × Obj)} {env : Env} {Q E : Value → Shared → Prop} {b r : Addr} {i many : Int} {t tm : Tok} {n : Nat} {vs : List Value} {ns : List Int} {gg : Obj → List (Addr × Obj)}
theorem pluck_K {hpS : Heap} {gnS : Array GenState} {drS : Drawn} {tkS : Nat} {osS : OsState} (S : St w mean mg mb base) (B : Below A base outer g) (F : Fr g L hpS m) (N : News g L hpS news) (Rm : Room A 2) (hr : hpS.IsList r vs.toArray) (hrb : r ≠ b) (hi : IntsAre vs ns) (hn : ns.length ≤ 60) (h0 : 0 ≤ i) (hm : 0 < many) (hm2 : many ≤ 30)
    (U : UpdF b (listOf #[.ref r, .int i t] n) news gg)
    (k : ∀ h' tk t' v tv n', Fr g L h' m → News g L h' (gg (listOf #[.ref r, .int (i + 1) t'] n')) → 0 ≤ i + 1 → 0 ≤ v → v < many → Q (.int v tv) ⟨h', gnS, drS, tk, osS⟩) (hf : env.frame = some L := by rfl) (hk : env.scope.kind = .function := by rfl) :
    wpAny (model prog w) (A.deeper env) (call (.ref 294) [.ref b, .int many tm]) Q E ⟨hpS, gnS, drS, tkS, osS⟩ := by
  refine wpAny_call (pluck S (pushX B F hf hk) (Rm.deeper (by decide)) (has_ofX hf B N (List.forall_mem_cons.mpr ⟨upd_in U, fun _ h => nomatch h⟩)) hr hrb hi hn h0 hm hm2 fun h' tk t' v tv n' x1 x2 x3 x4 => ?_)
  obtain ⟨F', N'⟩ := use0 F N U x1 x2
  exact k h' tk t' v tv n' F' N' (by omega) x3 x4
end
end
section
open PySem PySem.W PyProof.Rows PySem.Spec PySem.Calls PyProof.Rows.LCg
theorem line_M17_1 : True := by
  k_with_none
  w_top off
  k_with "my:k_mem" => (first | exact m0_ | exact m1_ | exact m2_ | exact m3_ | exact m4_ | exact m5_ | exact m6_ | exact m7_ | (refine m8s_ ?_; k_mem))
  k_with "my:k_ne" => (((try dsimp only); first
  | exact AllNe.mem (by assumption) (_, _) (by k_mem)
  | exact Ne.symm (AllNe.mem (by assumption) (_, _) (by k_mem))
  | assumption
  | exact Ne.symm (by assumption)
  | exact Nat.ne_of_lt (lt_at (by assumption) (by k_mem))
  | exact Nat.ne_of_gt (lt_at (by assumption) (by k_mem))
  | (refine neN ?_; omega)))
  k_with "my_enter" => ((
  (case ho => k_is)
  (case hcd => k_is)
  (case hbind => exact BindsTo.of_eq rfl)
  (case hloc => exact locs rfl)
  (case hco => exact rfl)
  (case hgen => exact rfl)
  (case hk => exact rfl)
  (case hcell => decide)))
  k_with "my_dist" => (((simp only [Dist, AllNe, and_true]); (repeat' (refine And.intro ?_ ?_)); all_goals k_ne))
  k_with "my_bs" => (first | exact List.forall_mem_nil _ | (refine List.forall_mem_cons.mpr ⟨⟨⟨_, by k_mem⟩, ⟨by k_ne, by k_ne⟩⟩, ?_⟩; walk_at "my_bs"))
  k_with "my_bs0" => (first | exact List.forall_mem_nil _ | (refine List.forall_mem_cons.mpr ⟨⟨_, by k_mem⟩, ?_⟩; walk_at "my_bs0"))
  k_with "my_ro" => (first | exact List.forall_mem_nil _ | (refine List.forall_mem_cons.mpr ⟨?aZ, ?bZ⟩; (case aZ => first | exact fun _ => News.get (by k_asm) (by k_mem) | exact fun hn => absurd (by simp) hn); (case bZ => walk_at "my_ro")))
  k_with "exec Raise some none" => ((k_here; (with_reducible show wpAny _ _ (exec (Stmt.Raise (some (Expr.Call (Expr.Name (PySem.Str.ofString "IoFault") _) _ _ _)) none _) _) _ _ _); k_dflt (refine' raise_K (C := 51) ?XZ ?KZ ?bZ ?tZ ?hZ ?_; (case XZ => k_asm); (case KZ => k_is); (case bZ => rfl); (case tZ => rfl); (case hZ => first | exact rfl | exact Room.hand (by assumption)); k_whole)))
  k_with "exec Raise some none" => ((k_here; (with_reducible show wpAny _ _ (exec (Stmt.Raise (some (Expr.Call (Expr.Name (PySem.Str.ofString "EndFault") _) _ _ _)) none _) _) _ _ _); k_dflt (refine' raise_K (C := 70) ?XZ ?KZ ?bZ ?tZ ?hZ ?_; (case XZ => k_asm); (case KZ => k_is); (case bZ => rfl); (case tZ => rfl); (case hZ => first | exact rfl | exact Room.hand (by assumption)); k_whole)))
  k_with "call ref" => ((k_here; (with_reducible show wpAny _ _ (PySem.call (Value.ref 51) [_, _]) _ _ _); k_dflt (refine' mk51_K ?SZ ?BZ ?FZ ?NZ ?RZ ?_; (case SZ => assumption); (case BZ => assumption); (case FZ => k_asm); (case NZ => k_asm); (case RZ => exact Room.less (by assumption) (by decide)); k_whole); intro h' tk' e' t' d' tx' ty' F' N' l1 l2 l3; (try k_sweep)))
  k_with "call ref" => ((k_here; (with_reducible show wpAny _ _ (PySem.call (Value.ref 70) [_]) _ _ _); k_dflt (refine' mk70_K ?SZ ?BZ ?FZ ?NZ ?RZ ?_; (case SZ => assumption); (case BZ => assumption); (case FZ => k_asm); (case NZ => k_asm); (case RZ => exact Room.less (by assumption) (by decide)); k_whole); intro h' tk' e' t' d' tx' ty' tz' F' N' l1 l2 l3; (try k_sweep)))
  k_with "RaiseMade" => ((k_dflt (refine' raiseMade_ ?XZ ?hZ ?_; (case XZ => k_in); (case hZ => exact News.get (by k_asm) (by k_mem)))))
  k_with "my_enterC" => ((
  (case ho => k_is)
  (case hcd => k_is)
  (case hbind => exact BindsTo.of_eq rfl)
  (case hkind => exact rfl)
  (case hnd => decide +kernel)
  (case hco => exact rfl)
  (case hgen => exact rfl)
  (case hk => exact rfl)))
  k_with "call ref" => ((k_here; (with_reducible show wpAny _ _ (PySem.call (Value.ref 294) [Value.ref _, Value.int _ _]) _ _ _); k_dflt (refine' pluck_K ?SZ ?BZ ?FZ ?NZ ?RZ ?hrZ ?rbZ ?hiZ ?hnZ ?h0Z ?hmZ ?hm2Z ?UZ ?_; (case SZ => assumption); (case BZ => assumption); (case FZ => k_asm); (case NZ => k_asm); (case RZ => exact Room.less (by assumption) (by decide)); (case hrZ => exact isList_keep (by k_asm) (by assumption)); (case UZ => k_updF); (case rbZ => k_ne); (case hiZ => assumption); (case hnZ => assumption); (case h0Z => assumption); (case hmZ => first | decide | omega); (case hm2Z => first | decide | omega); k_whole; intro h' tk' t' v' tv' n' F' N' h0' hv0' hv1'; (try dsimp only at N'); (try k_sweep))))
  k_with "eval ListComp" => (refine halt ?_)
  trivial
theorem strs_snoc {y : PySem.Str} {t : Tok} : ∀ {vs : List Value} {ss : List PySem.Str}, StrsAre vs ss → StrsAre (vs ++ [.str y t]) (ss ++ [y])
  | _, _, .nil => .cons y t .nil
  | _, _, .cons a b r => .cons a b (strs_snoc r)
theorem strs_len : ∀ {vs : List Value} {ss : List PySem.Str}, StrsAre vs ss → ss.length = vs.length
  | _, _, .nil => rfl
  | _, _, .cons _ _ r => by rw [List.length_cons, List.length_cons, strs_len r]
theorem ones_sum : ∀ {ss : List PySem.Str}, (∀ x ∈ ss, x.length = 1) → (ss.map (·.length)).sum = ss.length
  | [], _ => rfl
  | x :: r, h => by
    rw [List.map_cons, List.sum_cons, h x (.head _), ones_sum fun y hy => h y (.tail _ hy), List.length_cons]
    omega
noncomputable def Low (x : PySem.Str) : Prop := x.cps.all (fun c => decide (c < 100)) = true
theorem low_item {v : Int} (h0 : 0 ≤ v) (h1 : v < 4) : Low (Txt.item (PySem.Str.ofString "abc ") v) := by
  obtain ⟨k, rfl⟩ := Int.eq_ofNat_of_zero_le h0
  have hk : k < 4 := by omega
  have z : ∀ j : Fin 4, (Txt.item (PySem.Str.ofString "abc ") ((j.val : Nat) : Int)).cps.all (fun c => decide (c < 100)) = true := by decide +kernel
  exact z ⟨k, hk⟩
theorem Low.app {x y : PySem.Str} (hx : Low x) (hy : Low y) : Low (x ++ y) := by
  unfold Low at *
  show (x.cps ++ y.cps).all _ = true
  rw [Array.all_append, hx, hy]; rfl
theorem low_join : ∀ {ss : List PySem.Str}, (∀ x ∈ ss, Low x) → Low (PySem.Str.join (PySem.Str.ofString "") ss)
  | [], _ => by show Low PySem.Str.empty; unfold Low; decide +kernel
  | [x], h => h x (.head _)
  | x :: y :: r, h => by
    show Low (x ++ PySem.Str.ofString "" ++ PySem.Str.join (PySem.Str.ofString "") (y :: r))
    exact ((h x (.head _)).app (by unfold Low; decide +kernel)).app (low_join fun z hz => h z (.tail _ hz))
theorem low_join' {ss : List PySem.Str} (h : ∀ x ∈ ss, Low x) : Low (Txt.join (PySem.Str.ofString "") ss) := by
  show Low (PySem.Builtin.Str.glued _ ss)
  rw [StrLaws.glued_eq_join]
  exact low_join h
theorem hok0 {ss : List PySem.Str} (h : ∀ x ∈ ss, x.length = 1) (hn : ss.length ≤ 100) : (ss.map (·.length)).sum + ss.length * (PySem.Str.ofString "").length ≤ 16777216 := by
  rw [ones_sum h, show (PySem.Str.ofString "").length = 0 from by decide]
  omega
theorem join0_len {ss : List PySem.Str} (h : ∀ x ∈ ss, x.length = 1) : (Txt.join (PySem.Str.ofString "") ss).length = ss.length := by
  show (PySem.Builtin.Str.glued _ ss).length = _
  rw [StrLaws.glued_eq_join]
  cases ss with
  | nil => rfl
  | cons a l =>
    rw [len_join_cons, show (PySem.Str.ofString "").length = 0 from by decide, ones_sum h]
    rfl
theorem line_M17_2 : True := by
  k_with "call builtin:str.join" => ((k_here; k_dflt (refine' join_list ?hlZ ?hiZ ?hokZ ?_; (case hlZ => exact ⟨_, News.get (by k_asm) (by k_mem), rfl, _, rfl⟩); (case hiZ => assumption); (case hokZ => exact hok0 (by assumption) (by omega))); intro t' k'; (try dsimp only)))
  trivial
theorem range_facts {v : Int} (h0 : 0 ≤ v) (h1 : v ≤ 30) : Builtin.Range.small 0 v 1 = true ∧ Builtin.Range.rangeSize 0 v 1 = ((v.toNat : Nat) : Int) := by
  obtain ⟨k, rfl⟩ := Int.eq_ofNat_of_zero_le h0
  have hk : k ≤ 30 := by omega
  have z : ∀ j : Fin 31, Builtin.Range.small 0 ((j.val : Nat) : Int) 1 = true ∧ Builtin.Range.rangeSize 0 ((j.val : Nat) : Int) 1 = ((((j.val : Nat) : Int).toNat : Nat) : Int) := by decide
  exact z ⟨k, by omega⟩
section
variable {prog : Program} {w : World} {A : Around} {s : Shared} {base : Heap} {outer : List Env} {mean : ExcName → Option Value} {mg mb : Str → Option Value}
  {R : Result → Shared → Prop} {b r : Addr} {i : Int} {t : Tok} {n : Nat} {vs : List Value} {ns : List Int}
theorem recordS (S : St w mean mg mb base) (B : Below A base outer s.heap) (Rm : Room A 3) (H : Has base outer s.heap [(b, listOf #[.ref r, .int i t] n)])
    (hr : s.heap.IsList r vs.toArray) (hrb : r ≠ b) (hi : IntsAre vs ns) (hn : ns.length ≤ 60) (h0 : 0 ≤ i)
    (k : ∀ h' tk i' t' n' (x : PySem.Str) tx, Step [] [b] s.heap h' → h'.get? b = some (listOf #[.ref r, .int i' t'] n') → 0 ≤ i' → x.length ≤ 5 → Low x → R (.ok (.ret (.str x tx))) { s with heap := h', toks := tk }) :
    codeAny (model prog w) A (.call (.ref 299) ⟨[.ref b, .bool false], []⟩) R s := by
  obtain ⟨ha, dp, fr, gd, un⟩ := A
  obtain rfl : ha = none := Rm.han
  obtain rfl : fr = some outer := B.stack
  refine' enterC [(b, listOf #[.ref r, .int i t] n)] S B Rm.d H ?ho ?hcd ?hbind ?hkind ?hnd ?h ?hco ?hgen ?hk
  walk_at "my_enterC"
  intro g L' h₁ tk₁ cells F N Y Yn B' X T hold hg hL
  have T0 : KtsTurn (fs outer) g g := KtsTurn.refl
  skip
  have hrg : g.IsList r vs.toArray := let ⟨o, ho, z⟩ := hr; ⟨o, hold r o ho (by simpa using hrb), z⟩
  clear hr
  k_cells Y
  (try simp only [List.cons_append, List.nil_append] at N)
  (try simp only [List.forall_mem_cons, List.not_mem_nil, false_implies, implies_true, and_true] at Yn)
  (try dsimp only)
  try k_fold
  k_steps
  unfold Halt
  (rename Obj => oc)
  (rename Fr _ _ _ _ => F1)
  refine ListComp_M B' F1 (by with_unfolding_all rfl) (by decide) (by rfl) (by decide) (by rfl) ?_
  k_steps
  (rename IsRange _ _ _ _ _ _ _ _ => hR)
  (rename Fr _ _ _ _ => F2)
  (rename News _ _ _ _ => N2)
  refine ⟨_, _, fun i ys gq nw => gq = g ∧ ∃ i' t n ss, nw = [(L' + 1, oc), (b, listOf #[.ref r, .int i' t] n)] ∧ 0 ≤ i' ∧ StrsAre ys ss ∧ (∀ x ∈ ss, x.length = 1) ∧ ∀ x ∈ ss, Low x, _, ?sz, rfl, F2, B', N2, ⟨rfl, i + 1, _, _, [], rfl, by omega, StrsAre.nil, (fun _ h => nomatch h), fun _ h => nomatch h⟩, .inl ⟨_, 0, _, _, _, _, rfl, hR, (range_facts (by assumption) (by omega)).1, (range_facts (by assumption) (by omega)).2, rfl⟩, fun hh => ?turn, fun hh => ?done⟩
  case sz => rw [sizeLine_eq]; omega
  case turn =>
    intro i ys g2 nw v I oI C oC D m₂ h tk E' hi hyl hP hNs hx T2 F2 B2 N2 off ne hJ
    obtain ⟨rfl, i', t', n', ss, rfl, hi0, hss, hs1, hs2⟩ := hJ
    obtain ⟨tv, rfl⟩ := hP
    obtain ⟨o1, o2, o3⟩ := off_all off
    obtain ⟨n1, n2, n3⟩ := ne
    have X2 := S.X.keeps B2.stays
    have TT2 := S.T.keeps B2.stays
    clear hR
    k_steps
    (rename News _ _ _ _ => N9)
    exact ⟨_, _, _, _, rfl, T2, by k_asm, B2, N9, off, rfl, _, _, _, ss ++ [_], rfl, by assumption, strs_snoc hss, (fun x hx => by
      rcases List.mem_append.mp hx with hx | hx
      · exact hs1 x hx
      · rw [List.mem_singleton.mp hx]; assumption), fun x hx => by
      rcases List.mem_append.mp hx with hx | hx
      · exact hs2 x hx
      · rw [List.mem_singleton.mp hx]; exact low_item (by assumption) (by assumption)⟩
  case done =>
    intro D h tk ys g2 nw hyl T2 F2 B2 N2 o1 hJ
    obtain ⟨rfl, i', t', n', ss, rfl, hi0, hss, hs1, hs2⟩ := hJ
    have o2 := off1_all o1
    have X2 := S.X.keeps B2.stays
    have TT2 := S.T.keeps B2.stays
    have hsl := strs_len hss
    have hw := ones_sum hs1
    have hl5 : (Txt.join (PySem.Str.ofString "") ss).length ≤ 5 := by rw [join0_len hs1]; omega
    clear hR
    (try dsimp only)
    k_steps
    show R (.ok (.ret _)) _
    (rename Fr _ _ _ _ => F9)
    (rename News _ _ _ _ => N9)
    refine k _ _ _ _ _ _ _ (step_cut (end0 hold F9) H ?_) (N9.get (by k_mem)) hi0 hl5 (low_join' hs2)
    walk_at "my_ro"
noncomputable def recordL_s : (Rq : Program → World → Shared → Heap → List Env → (ExcName → Option Value) → (Str → Option Value) → (Str → Option Value) → (Result → Shared → Prop) → Addr → Addr → Int → Tok → Nat → List Value → List Int → Nat → Option (List Code) → Nat → Heap → Addr → Heap → Nat → Obj → Prop) ×' ((∀ (prog : Program) (w : World) (s : Shared) (base : Heap) (outer : List Env) (mean : ExcName → Option Value) (mg : Str → Option Value) (mb : Str → Option Value) (R : Result → Shared → Prop) (b : Addr) (r : Addr) (i : Int) (t : Tok) (n : Nat) (vs : List Value) (ns : List Int) (dp : Nat) (gd : Option (List Code)) (un : Nat) (g : Heap) (L' : Addr) (h₁ : Heap) (tk₁ : Nat) (c1 : Obj), Rq prog w s base outer mean mg mb R b r i t n vs ns dp gd un g L' h₁ tk₁ c1) → ∀ (A : Around) (prog : Program) (w : World) (s : Shared) (base : Heap) (outer : List Env) (mean : ExcName → Option Value) (mg : Str → Option Value) (mb : Str → Option Value) (R : Result → Shared → Prop) (b : Addr) (r : Addr) (i : Int) (t : Tok) (n : Nat) (vs : List Value) (ns : List Int) (S : St w mean mg mb base) (B : Below A base outer s.heap) (Rm : Room A 3) (H : Has base outer s.heap [(b, listOf #[.ref r, .int i t] n)]) (hr : s.heap.IsList r vs.toArray) (hrb : r ≠ b) (hi : IntsAre vs ns) (hn : ns.length ≤ 60) (h0 : 0 ≤ i) (k : ∀ h' tk i' t' n' (x : PySem.Str) tx r' t1 t2 rn ta tb tc, Step [] [b] s.heap h' → h'.get? b = some (listOf #[.ref r, .int i' t'] n') → 0 ≤ i' → x.length ≤ 5 → Low x → h'.get? r' = some (listOf #[.ref t1, .ref t2] rn) → h'.get? t1 = some (tupO [.int 0 ta, .int (x.length : Int) tb]) → h'.get? t2 = some (tupO [.int 5 tc, .str x tx]) → s.heap.get? r' = none → s.heap.get? t1 = none → s.heap.get? t2 = none → (@Ne Nat r' t1) → (@Ne Nat r' t2) → (@Ne Nat t1 t2) → R (.ok (.ret (.ref r'))) { s with heap := h', toks := tk }), codeAny (model prog w) A (.call (.ref 299) ⟨[.ref b, .bool true], []⟩) R s) := by
  refine ⟨?Rq, fun kHq A prog w s base outer mean mg mb R b r i t n vs ns S B Rm H hr hrb hi hn h0 k => ?pfq⟩
  case pfq =>
    obtain ⟨ha, dp, fr, gd, un⟩ := A
    obtain rfl : ha = none := Rm.han
    obtain rfl : fr = some outer := B.stack
    refine' enterC [(b, listOf #[.ref r, .int i t] n)] S B Rm.d H ?ho ?hcd ?hbind ?hkind ?hnd ?h ?hco ?hgen ?hk
    walk_at "my_enterC"
    intro g L' h₁ tk₁ cells F N Y Yn B' X T hold hg hL
    have T0 : KtsTurn (fs outer) g g := KtsTurn.refl
    skip
    have hrg : g.IsList r vs.toArray := let ⟨o, ho, z⟩ := hr; ⟨o, hold r o ho (by simpa using hrb), z⟩
    clear hr
    have hY := CellsAre.one Y
    obtain ⟨c1, hE', e1⟩ := hY
    subst hE'
    clear Y
    (try simp only [List.cons_append, List.nil_append] at N)
    (try simp only [List.forall_mem_cons, List.not_mem_nil, false_implies, implies_true, and_true] at Yn)
    revert e1; revert hrg; revert T0; revert hL; revert hg; revert hold; revert T; revert X; revert B'; revert Yn; revert N; revert F; revert k; revert h0; revert hn; revert hi; revert hrb; revert H; revert Rm; revert B; revert S
    exact kHq prog w s base outer mean mg mb R b r i t n vs ns dp gd un g L' h₁ tk₁ c1
noncomputable def recordL_q (x : (((((Program × World) × Shared) × ((Heap × List Env) × (ExcName → Option Value))) × ((((Str → Option Value) × (Str → Option Value)) × (Result → Shared → Prop)) × ((Addr × Addr) × Int))) × ((((Tok × Nat) × List Value) × ((List Int × Nat) × Option (List Code))) × (((Nat × Heap) × Addr) × ((Heap × Nat) × Obj))))) : Prop := recordL_s.1 x.1.1.1.1.1 x.1.1.1.1.2 x.1.1.1.2 x.1.1.2.1.1 x.1.1.2.1.2 x.1.1.2.2 x.1.2.1.1.1 x.1.2.1.1.2 x.1.2.1.2 x.1.2.2.1.1 x.1.2.2.1.2 x.1.2.2.2 x.2.1.1.1.1 x.2.1.1.1.2 x.2.1.1.2 x.2.1.2.1.1 x.2.1.2.1.2 x.2.1.2.2 x.2.2.1.1.1 x.2.2.1.1.2 x.2.2.1.2 x.2.2.2.1.1 x.2.2.2.1.2 x.2.2.2.2
noncomputable def recordL_c := @Classical.epsilon _ ⟨(((((PySem.Challenge.pw_sa0211_01, aWorld 1), {}), (({}, []), fun _ => none)), (((fun _ => none, fun _ => none), fun _ _ => True), ((0, 0), 0))), ((((0, 0), []), (([], 0), none)), (((0, {}), 0), (({}, 0), instObj 0 0))))⟩ fun x => ¬ recordL_q x
theorem recordL_k : recordL_q recordL_c := by
  refine (?fq : ∀ (prog : Program) (w : World) (s : Shared) (base : Heap) (outer : List Env) (mean : ExcName → Option Value) (mg : Str → Option Value) (mb : Str → Option Value) (R : Result → Shared → Prop) (b : Addr) (r : Addr) (i : Int) (t : Tok) (n : Nat) (vs : List Value) (ns : List Int) (dp : Nat) (gd : Option (List Code)) (un : Nat) (g : Heap) (L' : Addr) (h₁ : Heap) (tk₁ : Nat) (c1 : Obj), recordL_s.1 prog w s base outer mean mg mb R b r i t n vs ns dp gd un g L' h₁ tk₁ c1) _ _ _ _ _ _ _ _ _ _ _ _ _ _ _ _ _ _ _ _ _ _ _ _ 
  intro prog w s base outer mean mg mb R b r i t n vs ns dp gd un g L' h₁ tk₁ c1 S B Rm H hrb hi hn h0 k F N Yn B' X T hold hg hL T0 hrg e1
  (try dsimp only)
  try k_fold
  k_steps
  unfold Halt
  (rename Obj => oc)
  (rename Fr _ _ _ _ => F1)
  refine ListComp_M B' F1 (by with_unfolding_all rfl) (by decide) (by rfl) (by decide) (by rfl) ?_
  k_steps
  (rename IsRange _ _ _ _ _ _ _ _ => hR)
  (rename Fr _ _ _ _ => F2)
  (rename News _ _ _ _ => N2)
  refine ⟨_, _, fun i ys gq nw => gq = g ∧ ∃ i' t n ss, nw = [(L' + 1, oc), (b, listOf #[.ref r, .int i' t] n)] ∧ 0 ≤ i' ∧ StrsAre ys ss ∧ (∀ x ∈ ss, x.length = 1) ∧ ∀ x ∈ ss, Low x, _, ?sz, rfl, F2, B', N2, ⟨rfl, i + 1, _, _, [], rfl, by omega, StrsAre.nil, (fun _ h => nomatch h), fun _ h => nomatch h⟩, .inl ⟨_, 0, _, _, _, _, rfl, hR, (range_facts (by assumption) (by omega)).1, (range_facts (by assumption) (by omega)).2, rfl⟩, fun hh => ?turn, fun hh => ?done⟩
  case sz => rw [sizeLine_eq]; omega
  case turn =>
    intro i ys g2 nw v I oI C oC D m₂ h tk E' hi hyl hP hNs hx T2 F2 B2 N2 off ne hJ
    obtain ⟨rfl, i', t', n', ss, rfl, hi0, hss, hs1, hs2⟩ := hJ
    obtain ⟨tv, rfl⟩ := hP
    obtain ⟨o1, o2, o3⟩ := off_all off
    obtain ⟨n1, n2, n3⟩ := ne
    have X2 := S.X.keeps B2.stays
    have TT2 := S.T.keeps B2.stays
    clear hR
    k_steps
    (rename News _ _ _ _ => N9)
    exact ⟨_, _, _, _, rfl, T2, by k_asm, B2, N9, off, rfl, _, _, _, ss ++ [_], rfl, by assumption, strs_snoc hss, (fun x hx => by
      rcases List.mem_append.mp hx with hx | hx
      · exact hs1 x hx
      · rw [List.mem_singleton.mp hx]; assumption), fun x hx => by
      rcases List.mem_append.mp hx with hx | hx
      · exact hs2 x hx
      · rw [List.mem_singleton.mp hx]; exact low_item (by assumption) (by assumption)⟩
  case done =>
    intro D h tk ys g2 nw hyl T2 F2 B2 N2 o1 hJ
    obtain ⟨rfl, i', t', n', ss, rfl, hi0, hss, hs1, hs2⟩ := hJ
    have o2 := off1_all o1
    have X2 := S.X.keeps B2.stays
    have TT2 := S.T.keeps B2.stays
    have hsl := strs_len hss
    have hw := ones_sum hs1
    have hl5 : (Txt.join (PySem.Str.ofString "") ss).length ≤ 5 := by rw [join0_len hs1]; omega
    clear hR
    (try dsimp only)
    k_steps
    show R (.ok (.ret _)) _
    (rename Fr _ _ _ _ => F9)
    (rename News _ _ _ _ => N9)
    refine k _ _ _ _ _ _ _ _ _ _ _ _ _ _ (step_cut (end0 hold F9) H ?_) (N9.get (by k_mem)) hi0 hl5 (low_join' hs2) (N9.get (by k_mem)) (N9.get (by k_mem)) (N9.get (by k_mem)) (fresh_in hold N9 (by k_mem) ?_) (fresh_in hold N9 (by k_mem) ?_) (fresh_in hold N9 (by k_mem) ?_) ?_ ?_ ?_
    · walk_at "my_ro"
    all_goals first | k_ne | exact List.forall_mem_cons.mpr ⟨by k_ne, fun _ h => nomatch h⟩
theorem recordL  (S : St w mean mg mb base) (B : Below A base outer s.heap) (Rm : Room A 3) (H : Has base outer s.heap [(b, listOf #[.ref r, .int i t] n)])
    (hr : s.heap.IsList r vs.toArray) (hrb : r ≠ b) (hi : IntsAre vs ns) (hn : ns.length ≤ 60) (h0 : 0 ≤ i)
    (k : ∀ h' tk i' t' n' (x : PySem.Str) tx r' t1 t2 rn ta tb tc, Step [] [b] s.heap h' → h'.get? b = some (listOf #[.ref r, .int i' t'] n') → 0 ≤ i' → x.length ≤ 5 → Low x → h'.get? r' = some (listOf #[.ref t1, .ref t2] rn) → h'.get? t1 = some (tupO [.int 0 ta, .int (x.length : Int) tb]) → h'.get? t2 = some (tupO [.int 5 tc, .str x tx]) → s.heap.get? r' = none → s.heap.get? t1 = none → s.heap.get? t2 = none → (@Ne Nat r' t1) → (@Ne Nat r' t2) → (@Ne Nat t1 t2) → R (.ok (.ret (.ref r'))) { s with heap := h', toks := tk }) :
    codeAny (model prog w) A (.call (.ref 299) ⟨[.ref b, .bool true], []⟩) R s :=
  recordL_s.2 (fun prog w s base outer mean mg mb R b r i t n vs ns dp gd un g L' h₁ tk₁ c1 => hk_ax (P := recordL_q) _ recordL_k (((((prog, w), s), ((base, outer), mean)), (((mg, mb), R), ((b, r), i))), ((((t, n), vs), ((ns, dp), gd)), (((un, g), L'), ((h₁, tk₁), c1))))) A prog w s base outer mean mg mb R b r i t n vs ns S B Rm H hr hrb hi hn h0 k
end
section
variable {prog : Program} {w : World} {A : Around} {s : Shared} {base g : Heap} {outer : List Env} {mean : ExcName → Option Value} {mg mb : Str → Option Value}
  {L a : Addr} {m : Str → Option Value} {news : List (Addr × Obj)} {env : Env} {Q E : Value → Shared → Prop} {b r : Addr} {i : Int} {t : Tok} {n : Nat} {vs : List Value} {ns : List Int} {gg : Obj → List (Addr × Obj)}
theorem recordS_K {hpS : Heap} {gnS : Array GenState} {drS : Drawn} {tkS : Nat} {osS : OsState} (S : St w mean mg mb base) (B : Below A base outer g) (F : Fr g L hpS m) (N : News g L hpS news) (Rm : Room A 4) (hr : hpS.IsList r vs.toArray) (hrb : r ≠ b) (hi : IntsAre vs ns) (hn : ns.length ≤ 60) (h0 : 0 ≤ i)
    (U : UpdF b (listOf #[.ref r, .int i t] n) news gg)
    (k : ∀ h' tk i' t' n' (x : PySem.Str) tx, Fr g L h' m → News g L h' (gg (listOf #[.ref r, .int i' t'] n')) → 0 ≤ i' → x.length ≤ 5 → Low x → Q (.str x tx) ⟨h', gnS, drS, tk, osS⟩) (hf : env.frame = some L := by rfl) (hk : env.scope.kind = .function := by rfl) :
    wpAny (model prog w) (A.deeper env) (call (.ref 299) [.ref b, .bool false]) Q E ⟨hpS, gnS, drS, tkS, osS⟩ := by
  refine wpAny_call (recordS S (pushX B F hf hk) (Rm.deeper (by decide)) (has_ofX hf B N (List.forall_mem_cons.mpr ⟨upd_in U, fun _ h => nomatch h⟩)) hr hrb hi hn h0 fun h' tk i' t' n' x tx x1 x2 x3 x4 xl => ?_)
  obtain ⟨F', N'⟩ := use0 F N U x1 x2
  exact k h' tk i' t' n' x tx F' N' x3 x4 xl
theorem recordL_K {hpS : Heap} {gnS : Array GenState} {drS : Drawn} {tkS : Nat} {osS : OsState} (S : St w mean mg mb base) (B : Below A base outer g) (F : Fr g L hpS m) (N : News g L hpS news) (Rm : Room A 4) (hr : hpS.IsList r vs.toArray) (hrb : r ≠ b) (hi : IntsAre vs ns) (hn : ns.length ≤ 60) (h0 : 0 ≤ i)
    (U : UpdF b (listOf #[.ref r, .int i t] n) news gg)
    (k : ∀ h' tk i' t' n' (x : PySem.Str) tx r' t1 t2 rn ta tb tc, Fr g L h' m → News g L h' ((r', listOf #[.ref t1, .ref t2] rn) :: (t1, tupO [.int 0 ta, .int (x.length : Int) tb]) :: (t2, tupO [.int 5 tc, .str x tx]) :: gg (listOf #[.ref r, .int i' t'] n')) → 0 ≤ i' → x.length ≤ 5 → Low x → AllNe r' news → AllNe t1 news → AllNe t2 news → (@Ne Nat r' t1) → (@Ne Nat r' t2) → (@Ne Nat t1 t2) → Q (.ref r') ⟨h', gnS, drS, tk, osS⟩) (hf : env.frame = some L := by rfl) (hk : env.scope.kind = .function := by rfl) :
    wpAny (model prog w) (A.deeper env) (call (.ref 299) [.ref b, .bool true]) Q E ⟨hpS, gnS, drS, tkS, osS⟩ := by
  refine wpAny_call (recordL S (pushX B F hf hk) (Rm.deeper (by decide)) (has_ofX hf B N (List.forall_mem_cons.mpr ⟨upd_in U, fun _ h => nomatch h⟩)) hr hrb hi hn h0 fun h' tk i' t' n' x tx r' t1 t2 rn ta tb tc x1 x2 x3 x4 xl x5 x6 x7 f1 f2 f3 e1 e2 e3 => ?_)
  obtain ⟨F', N'⟩ := use0 F N U x1 x2
  exact k h' tk i' t' n' x tx r' t1 t2 rn ta tb tc F' (useNew F f1 x5 (useNew F f2 x6 (useNew F f3 x7 N' (new_none F f3)) (new_none F f2)) (new_none F f1)) x3 x4 xl (new_ne N f1) (new_ne N f2) (new_ne N f3) e1 e2 e3
end
end
section
open PySem PySem.W PyProof.Rows PySem.Spec PySem.Calls
open PyProof.Rows.LCg
section
variable {prog : Program} {w : World} {A A₀ : Around} {E : Value → Shared → Prop} {base g₀ : Heap} {outer : List Env} {L : Addr} {m : Str → Option Value} {env : Env} {x : Str} {body : List Stmt} {Q : Flow → Shared → Prop}
noncomputable def StepM (A₀ : Around) (base g₀ : Heap) (outer : List Env) (L : Addr) (J : Nat → (Str → Option Value) → Heap → List (Addr × Obj) → Prop) (Q : Flow → Shared → Prop) (gens : Array GenState) (dr : Drawn) (os : OsState) (i : Nat) (I : Addr) (oI : Obj) (f : Flow) (s₃ : Shared) : Prop :=
  match f with
  | .next | .cont => ∃ h' tk m₂ g' news', s₃ = ⟨h', gens, dr, tk, os⟩ ∧ KtsTurn (fs outer) g₀ g' ∧ Fr g' L h' m₂ ∧ Below A₀ base outer g' ∧ News g' L h' ((I, oI) :: news') ∧ AllNe I news' ∧ J (i + 1) m₂ g' news'
  | .brk => Q .next s₃
  | .ret v => Q (.ret v) s₃
noncomputable def ForM (prog : Program) (w : World) (A A₀ : Around) (base g₀ : Heap) (outer : List Env) (L : Addr) (env : Env) (x : Str) (body : List Stmt) (Q : Flow → Shared → Prop) (E : Value → Shared → Prop) (xv : Value) (s₁ : Shared) : Prop :=
  ∃ n P m J news, A.handled = none ∧ Fr g₀ L s₁.heap m ∧ Below A₀ base outer g₀ ∧ News g₀ L s₁.heap news ∧ J 0 m g₀ news ∧
    ((∃ r a b t u v, xv = .ref r ∧ IsRange s₁.heap r a b 1 t u v ∧ Builtin.Range.small a b 1 = true ∧ Builtin.Range.rangeSize a b 1 = ((n : Nat) : Int) ∧ P = fun i v => ∃ t, v = .int (a + (i : Int)) t) ∨
     (∃ ax its, xv = .ref ax ∧ s₁.heap.IsList ax its ∧ its.size = n ∧ (P = fun i v => its[i]? = some v) ∧ ∀ i m₁ g nw h, J i m₁ g nw → (∀ b o, g.get? b = some o → h.get? b = some o) → News g L h nw → h.IsList ax its)) ∧
    (∀ i m₁ g news v I oI h tk, i < n → P i v → KtsTurn (fs outer) g₀ g → Fr g L h (fun y => if y = x then some v else m₁ y) → Below A₀ base outer g → News g L h ((I, oI) :: news) → AllNe I news → J i m₁ g news →
      wpAny (model prog w) A (execs body env) (StepM A₀ base g₀ outer L J Q s₁.gens s₁.drawn s₁.os i I oI) E { s₁ with heap := h, toks := tk }) ∧
    (∀ h tk m₁ g news, KtsTurn (fs outer) g₀ g → Fr g L h m₁ → Below A₀ base outer g → News g L h news → J n m₁ g news → Q .next { s₁ with heap := h, toks := tk })
noncomputable def forLoop_M_P (prog : Program) (w : World) (A : Around) (A₀ : Around) (base : Heap) (g₀ : Heap) (outer : List Env) (L : Addr) (m : Str → Option Value) (env : Env) (x : Str) (body : List Stmt) (px : Pos) (s₂ : Shared) (I : Addr) (fp : List Addr) (n : Nat) (P : Nat → Value → Prop) (St : Nat → Heap → Prop) (J : Nat → (Str → Option Value) → Heap → List (Addr × Obj) → Prop) (news : List (Addr × Obj)) (R : Result → Shared → Prop) : Prop := ∀ (W : Walks prog w A I fp [I] n P St) (hIo : ∀ i h, St i h → ∃ o, h.get? I = some o) (hSt : ∀ i h h' o m₁ g nw, St i h → h.get? I = some o → h'.get? I = some o → (∀ b o, g.get? b = some o → h'.get? b = some o) → News g L h' nw → J i m₁ g nw → St i h') (hx : env.kindOf x = some .local) (hp : (env.scope.kind == .class || (env.scope.kind == .module && env.locals != env.globals)) = false) (hL : env.locals = L) (hLf : L ∉ fp) (hst : St 0 s₂.heap) (F : Fr g₀ L s₂.heap m) (Bl : Below A₀ base outer g₀) (N : News g₀ L s₂.heap news) (hI₀ : g₀.get? I = none) (off : ∀ p ∈ news, p.1 ≠ I) (hJ : J 0 m g₀ news) (turn : ∀ i m₁ g news v oI h tk, i < n → P i v → KtsTurn (fs outer) g₀ g → Fr g L h (fun y => if y = x then some v else m₁ y) → Below A₀ base outer g → News g L h ((I, oI) :: news) → AllNe I news → J i m₁ g news → wpAny (model prog w) A (execs body env) (StepM A₀ base g₀ outer L J (fun f s => R (.ok f) s) s₂.gens s₂.drawn s₂.os i I oI) (notedBy (model prog w) A env fun e s' => R (.error e) s') { s₂ with heap := h, toks := tk }) (done : ∀ h tk m₁ g news, KtsTurn (fs outer) g₀ g → Fr g L h m₁ → Below A₀ base outer g → News g L h news → J n m₁ g news → R (.ok .next) { s₂ with heap := h, toks := tk }), codeAny (model prog w) A (.forLoop (.Name x px) (.ref I) body [] env) R s₂
noncomputable def forLoop_M_q (x : (((((Program × World) × Around) × ((Around × Heap) × Heap)) × (((List Env × Addr) × (Str → Option Value)) × (Env × Str))) × ((((List Stmt × Pos) × Shared) × ((Addr × List Addr) × Nat)) × ((((Nat → Value → Prop) × (Nat → Heap → Prop)) × (Nat → (Str → Option Value) → Heap → List (Addr × Obj) → Prop)) × (List (Addr × Obj) × (Result → Shared → Prop)))))) : Prop := forLoop_M_P x.1.1.1.1.1 x.1.1.1.1.2 x.1.1.1.2 x.1.1.2.1.1 x.1.1.2.1.2 x.1.1.2.2 x.1.2.1.1.1 x.1.2.1.1.2 x.1.2.1.2 x.1.2.2.1 x.1.2.2.2 x.2.1.1.1.1 x.2.1.1.1.2 x.2.1.1.2 x.2.1.2.1.1 x.2.1.2.1.2 x.2.1.2.2 x.2.2.1.1.1 x.2.2.1.1.2 x.2.2.1.2 x.2.2.2.1 x.2.2.2.2
noncomputable def forLoop_M_c := @Classical.epsilon _ ⟨(((((PySem.Challenge.pw_sa0211_01, aWorld 1), {}), (({}, {}), {})), ((([], 0), fun _ => none), (default, Str.ofString ""))), ((((default, default), {}), ((0, default), 0)), (((default, default), default), ([], fun _ _ => True))))⟩ fun x => ¬ forLoop_M_q x
theorem forLoop_M_k : forLoop_M_q forLoop_M_c := by
  refine (?fq : ∀ (prog : Program) (w : World) (A : Around) (A₀ : Around) (base : Heap) (g₀ : Heap) (outer : List Env) (L : Addr) (m : Str → Option Value) (env : Env) (x : Str) (body : List Stmt) (px : Pos) (s₂ : Shared) (I : Addr) (fp : List Addr) (n : Nat) (P : Nat → Value → Prop) (St : Nat → Heap → Prop) (J : Nat → (Str → Option Value) → Heap → List (Addr × Obj) → Prop) (news : List (Addr × Obj)) (R : Result → Shared → Prop), forLoop_M_P prog w A A₀ base g₀ outer L m env x body px s₂ I fp n P St J news R) _ _ _ _ _ _ _ _ _ _ _ _ _ _ _ _ _ _ _ _ _ _ 
  intro prog w A A₀ base g₀ outer L m env x body px s₂ I fp n P St J news R W hIo hSt hx hp hL hLf hst F Bl N hI₀ off hJ turn done
  subst hL
  have hIf : I ∈ fp := W.sub I (List.mem_singleton.mpr rfl)
  have hIL : env.locals ≠ I := fun q => hLf (q ▸ hIf)
  refine codeAny_forLoop_any
    (fun k s' => ∃ h' tk i m' g news', s' = { s₂ with heap := h', toks := tk } ∧ i ≤ n ∧ k = n + 1 - i ∧ St i h' ∧ KtsTurn (fs outer) g₀ g ∧ Fr g env.locals h' m' ∧ Below A₀ base outer g ∧ News g env.locals h' news' ∧ AllNe I news' ∧ J i m' g news') ?_ (n + 1)
    ⟨s₂.heap, s₂.toks, 0, m, g₀, news, rfl, Nat.zero_le _, rfl, hst, KtsTurn.refl, F, Bl, N, allNe_of off, hJ⟩
  rintro k s' ⟨h', tk, i, m', g, news', rfl, hi, rfl, hst', T', F', B', N', off', J'⟩
  have hI₁ := T'.none_ _ hI₀
  by_cases hlt : i < n
  · refine W.item i _ _ _ hlt hst' fun v h₂ tk₂ hPv hst₂ hk₂ => ?_
    refine wpAny_of_eq (show letOwnedTupleGo (.Name x px) (.ref I) v = pure () from rfl) ?_
    have F₂ := fr_but F' hk₂ hIL hI₁
    have N₂ : News g env.locals h₂ news' := news_but N' hk₂ fun p hp => AllNe.mem off' p hp
    refine wpAny_assign_Name (wpAny_storeName_local hx F₂.ns (fun h₃ hn₃ hs₃ => ?_) hp)
    have F₃ : Fr g env.locals h₃ (fun y => if y = x then some v else m' y) := F₂.set hn₃ hs₃
    have hst₃ : St (i + 1) h₃ := W.frame _ _ _ hst₂ fun b hb o e => hs₃.extBut b o (fun q => hLf (by rw [← show b = env.locals from q]; exact hb)) e
    obtain ⟨oI, heI⟩ := hIo _ _ hst₃
    have N₃ : News g env.locals h₃ ((I, oI) :: news') := fun p hp => by
      rcases List.mem_cons.mp hp with rfl | hp
      · exact ⟨heI, Ne.symm hIL, hI₁⟩
      · exact N₂.set hs₃ p hp
    refine wpAny_mono (turn i m' g news' v oI h₃ _ hlt hPv T' F₃ B' N₃ off' J') (fun f s₄ h₄ => ?_) fun _ _ e => e
    have go : (∃ h' tk m₂ g' news', s₄ = ⟨h', s₂.gens, s₂.drawn, tk, s₂.os⟩ ∧ KtsTurn (fs outer) g₀ g' ∧ Fr g' env.locals h' m₂ ∧ Below A₀ base outer g' ∧ News g' env.locals h' ((I, oI) :: news') ∧ AllNe I news' ∧ J (i + 1) m₂ g' news') →
        ∃ m, m < n + 1 - i ∧ ∃ h' tk i m' g news', s₄ = { s₂ with heap := h', toks := tk } ∧ i ≤ n ∧ m = n + 1 - i ∧ St i h' ∧ KtsTurn (fs outer) g₀ g ∧ Fr g env.locals h' m' ∧ Below A₀ base outer g ∧ News g env.locals h' news' ∧ AllNe I news' ∧ J i m' g news' := by
      rintro ⟨h₅, tk₄, m₄, g₄, news₄, rfl, T₄, F₄, B₄, N₄, off₄, J₄⟩
      have N₄' : News g₄ env.locals h₅ news₄ := fun p hp => N₄ p (List.mem_cons_of_mem _ hp)
      exact ⟨n + 1 - (i + 1), by omega, h₅, tk₄, i + 1, m₄, g₄, news₄, rfl, hlt, rfl, hSt _ _ _ _ _ _ _ hst₃ heI (N₄ _ (.head _)).1 F₄.keep N₄' J₄, T₄, F₄, B₄, N₄', off₄, J₄⟩
    cases f with
    | next => exact go h₄
    | cont => exact go h₄
    | brk => exact h₄
    | ret v => exact h₄
  · obtain rfl : i = n := Nat.le_antisymm hi (Nat.not_lt.mp hlt)
    refine W.done _ _ _ hst' fun h₂ tk₂ hk₂ => wpAny_execs_nil ?_
    exact done h₂ tk₂ m' g news' T' (fr_but F' hk₂ hIL hI₁) B' (news_but N' hk₂ fun p hp => AllNe.mem off' p hp) J'
theorem forLoop_M  {px : Pos} {s₂ : Shared} {I : Addr} {fp : List Addr} {n : Nat} {P : Nat → Value → Prop} {St : Nat → Heap → Prop} {J : Nat → (Str → Option Value) → Heap → List (Addr × Obj) → Prop} {news : List (Addr × Obj)} {R : Result → Shared → Prop}
    (W : Walks prog w A I fp [I] n P St) (hIo : ∀ i h, St i h → ∃ o, h.get? I = some o)
    (hSt : ∀ i h h' o m₁ g nw, St i h → h.get? I = some o → h'.get? I = some o → (∀ b o, g.get? b = some o → h'.get? b = some o) → News g L h' nw → J i m₁ g nw → St i h')
    (hx : env.kindOf x = some .local) (hp : (env.scope.kind == .class || (env.scope.kind == .module && env.locals != env.globals)) = false) (hL : env.locals = L) (hLf : L ∉ fp)
    (hst : St 0 s₂.heap) (F : Fr g₀ L s₂.heap m) (Bl : Below A₀ base outer g₀) (N : News g₀ L s₂.heap news) (hI₀ : g₀.get? I = none) (off : ∀ p ∈ news, p.1 ≠ I) (hJ : J 0 m g₀ news)
    (turn : ∀ i m₁ g news v oI h tk, i < n → P i v → KtsTurn (fs outer) g₀ g → Fr g L h (fun y => if y = x then some v else m₁ y) → Below A₀ base outer g → News g L h ((I, oI) :: news) → AllNe I news → J i m₁ g news →
      wpAny (model prog w) A (execs body env) (StepM A₀ base g₀ outer L J (fun f s => R (.ok f) s) s₂.gens s₂.drawn s₂.os i I oI) (notedBy (model prog w) A env fun e s' => R (.error e) s') { s₂ with heap := h, toks := tk })
    (done : ∀ h tk m₁ g news, KtsTurn (fs outer) g₀ g → Fr g L h m₁ → Below A₀ base outer g → News g L h news → J n m₁ g news → R (.ok .next) { s₂ with heap := h, toks := tk }) :
    codeAny (model prog w) A (.forLoop (.Name x px) (.ref I) body [] env) R s₂ :=
  hk_ax (P := forLoop_M_q) _ forLoop_M_k (((((prog, w), A), ((A₀, base), g₀)), (((outer, L), m), (env, x))), ((((body, px), s₂), ((I, fp), n)), (((P, St), J), (news, R)))) W hIo hSt hx hp hL hLf hst F Bl N hI₀ off hJ turn done
noncomputable def For_M_P (prog : Program) (w : World) (A : Around) (A₀ : Around) (E : Value → Shared → Prop) (base : Heap) (g₀ : Heap) (outer : List Env) (L : Addr) (m : Str → Option Value) (env : Env) (x : Str) (body : List Stmt) (Q : Flow → Shared → Prop) (s : Shared) (px : Pos) (pos : Pos) (iter : Expr) : Prop := ∀ (_B : Below A₀ base outer g₀) (_F₀ : Fr g₀ L s.heap m) (hx : env.kindOf x = some .local) (hp : (env.scope.kind == .class || (env.scope.kind == .module && env.locals != env.globals)) = false) (hL : env.locals = L) (h : wpAny (model prog w) A (eval iter env) (ForM prog w A A₀ base g₀ outer L env x body Q E) E s) (hs : ∀ x, foldedSetIterable iter env x = pure x) (hE : PassesOwn (model prog w) A env E), wpAny (model prog w) A (exec (.For (.Name x px) iter body [] pos) env) Q E s
noncomputable def For_M_q (x : (((((Program × World) × Around) × (Around × (Value → Shared → Prop))) × ((Heap × Heap) × (List Env × Addr))) × (((((Str → Option Value) × Env) × Str) × (List Stmt × (Flow → Shared → Prop))) × ((Shared × Pos) × (Pos × Expr))))) : Prop := For_M_P x.1.1.1.1.1 x.1.1.1.1.2 x.1.1.1.2 x.1.1.2.1 x.1.1.2.2 x.1.2.1.1 x.1.2.1.2 x.1.2.2.1 x.1.2.2.2 x.2.1.1.1.1 x.2.1.1.1.2 x.2.1.1.2 x.2.1.2.1 x.2.1.2.2 x.2.2.1.1 x.2.2.1.2 x.2.2.2.1 x.2.2.2.2
noncomputable def For_M_c := @Classical.epsilon _ ⟨(((((PySem.Challenge.pw_sa0211_01, aWorld 1), {}), ({}, fun _ _ => True)), (({}, {}), ([], 0))), ((((fun _ => none, default), Str.ofString ""), (default, fun _ _ => True)), (({}, default), (default, default))))⟩ fun x => ¬ For_M_q x
theorem For_M_k : For_M_q For_M_c := by
  refine (?fq : ∀ (prog : Program) (w : World) (A : Around) (A₀ : Around) (E : Value → Shared → Prop) (base : Heap) (g₀ : Heap) (outer : List Env) (L : Addr) (m : Str → Option Value) (env : Env) (x : Str) (body : List Stmt) (Q : Flow → Shared → Prop) (s : Shared) (px : Pos) (pos : Pos) (iter : Expr), For_M_P prog w A A₀ E base g₀ outer L m env x body Q s px pos iter) _ _ _ _ _ _ _ _ _ _ _ _ _ _ _ _ _ _ 
  intro prog w A A₀ E base g₀ outer L m env x body Q s px pos iter _B _F₀ hx hp hL h hs hE
  refine wpAny_For (wpAny_mono h (fun xv s₁ h₁ => ?_) fun _ _ e => e) hs
  obtain ⟨n, P, m₀, J, news, hh, F, Bl, N, hJ, hsrc, ht, hd⟩ := h₁
  have up : ∀ (o : Obj) b ob, s₁.heap.get? b = some ob → (s₁.heap.push o).get? b = some ob := fun o b ob e => Heap.get?_push_of_some _ e
  have offs : ∀ p ∈ news, p.1 ≠ s₁.heap.objs.size := fun p hp => Nat.ne_of_lt (Heap.lt_size (N p hp).1)
  rcases hsrc with ⟨r, a, b, t, u, v, rfl, hr, hsm, hn, rfl⟩ | ⟨ax, its, rfl, hl, rfl, rfl, hJl⟩
  · refine wpAny_pyIter_range hr hsm ?_
    exact forLoop_M (R := fun r s' => match r with | .ok f => Q f s' | .error e => cameBackBy (model prog w) A env E e s') (range_walks hh a n) (fun i h st => ⟨_, st⟩) (fun i h h' o m₁ g nw st e e' _ _ _ => by
      have st' : h.get? s₁.heap.objs.size = some _ := st
      show h'.get? s₁.heap.objs.size = some _
      rw [e', ← e]; exact st') hx hp hL (fun hm => by rw [List.mem_singleton] at hm; exact absurd F.ns.lt (hm ▸ Nat.lt_irrefl _)) (by show IsRangeIter _ _ _ _ _; rw [hn]; simpa using Heap.get?_push_size _ rfl)
      (F.keeps (up _)) Bl (N.grown (up _)) (next_is_new F) offs hJ (fun i m₁ g news v oI h tk a1 a2 a3 a4 a5 a6 a7 a8 => wpAny_passesOwn hE (wpAny_mono (ht i m₁ g news v _ oI h tk a1 a2 a3 a4 a5 a6 a7 a8) (fun f s' z => by cases f <;> exact z) fun _ _ z => z)) hd
  · have hlt : ax < s₁.heap.objs.size := by obtain ⟨_, e, _⟩ := hl; exact Heap.lt_size e
    have hLax : L ≠ ax := fun q => by
      obtain ⟨oL, es, ep, e, hdt, _⟩ := F.ns
      obtain ⟨o, e', _, k, hd'⟩ := hl
      rw [q, e'] at e
      cases e
      rw [hd'] at hdt; cases hdt
    refine wpAny_pyIter_list hl ?_
    exact forLoop_M (R := fun r s' => match r with | .ok f => Q f s' | .error e => cameBackBy (model prog w) A env E e s') (Walks.list hh s₁.heap.objs.size ax (Nat.ne_of_lt hlt) its) (fun i h st => by obtain ⟨o, e, _⟩ := st.1; exact ⟨o, e⟩) (fun i h h' o m₁ g nw st e e' k N' J' => ⟨by obtain ⟨o', q, r⟩ := st.1; rw [e] at q; cases q; exact ⟨o, e', r⟩, hJl i m₁ g nw h' J' k N'⟩)
      hx hp hL (fun hm => by
        rcases List.mem_cons.mp hm with hm | hm
        · exact absurd F.ns.lt (hm ▸ Nat.lt_irrefl _)
        · exact hLax (List.mem_singleton.mp hm)) ⟨⟨_, Heap.get?_push_size _ rfl, rfl, rfl⟩, hl.push _⟩
      (F.keeps (up _)) Bl (N.grown (up _)) (next_is_new F) offs hJ (fun i m₁ g news v oI h tk a1 a2 a3 a4 a5 a6 a7 a8 => wpAny_passesOwn hE (wpAny_mono (ht i m₁ g news v _ oI h tk a1 a2 a3 a4 a5 a6 a7 a8) (fun f s' z => by cases f <;> exact z) fun _ _ z => z)) hd
theorem For_M  {s : Shared} {px pos : Pos} {iter : Expr} (_B : Below A₀ base outer g₀) (_F₀ : Fr g₀ L s.heap m) (hx : env.kindOf x = some .local) (hp : (env.scope.kind == .class || (env.scope.kind == .module && env.locals != env.globals)) = false) (hL : env.locals = L)
    (h : wpAny (model prog w) A (eval iter env) (ForM prog w A A₀ base g₀ outer L env x body Q E) E s)
    (hs : ∀ x, foldedSetIterable iter env x = pure x := by intro _; rfl)
    (hE : PassesOwn (model prog w) A env E := by passes_own) :
    wpAny (model prog w) A (exec (.For (.Name x px) iter body [] pos) env) Q E s :=
  hk_ax (P := For_M_q) _ For_M_k (((((prog, w), A), (A₀, E)), ((base, g₀), (outer, L))), ((((m, env), x), (body, Q)), ((s, px), (pos, iter)))) _B _F₀ hx hp hL h hs hE
end
end
section
open PySem PySem.W PyProof.Rows PySem.Spec PySem.Calls PyProof.Rows.LCg PySem.SeqAt
theorem va_map (k j : Int) (v : Value) : ∀ kvs : List (Int × Value), valueAt (kvs.map fun kv => if kv.1 = k then (kv.1, v) else kv) j = if j = k then (if (kvs.any fun kv => kv.1 = k) = true then some v else none) else valueAt kvs j
  | [] => by simp [valueAt]
  | (a, x) :: r => by
    have ih := va_map k j v r
    unfold valueAt at ih ⊢
    simp only [List.map_cons, List.find?_cons, List.any_cons]
    by_cases hak : a = k
    · subst hak
      by_cases hj : j = a
      · subst hj; simp
      · have : ¬ a = j := fun e => hj e.symm
        simp only [if_true, this, decide_false, hj, if_false] at ih ⊢
        exact ih
    · by_cases hj : j = k
      · subst hj
        simp only [hak, if_false, decide_false, Bool.false_or, if_true] at ih ⊢
        exact ih
      · by_cases haj : a = j
        · subst haj; simp [hak]
        · simp only [hak, if_false, haj, decide_false, hj] at ih ⊢
          exact ih
theorem va_stored (kvs : List (Int × Value)) (k j : Int) (v : Value) : valueAt (stored kvs k v) j = if j = k then some v else valueAt kvs j := by
  unfold stored
  split
  · rename_i h
    rw [va_map, if_pos h]
  · rename_i h
    unfold valueAt
    rw [List.find?_append]
    by_cases hj : j = k
    · subst hj
      have : (kvs.find? fun kv => kv.1 = j) = none := by
        rw [List.find?_eq_none]
        intro x hx hxk
        exact h (List.any_eq_true.mpr ⟨x, hx, hxk⟩)
      simp [this]
    · have : ¬ k = j := fun e => hj e.symm
      simp [hj, this]
noncomputable def RecD (rs : List (Addr × Obj)) (v : Value) (d : PyData) : Prop := shaped d = true ∧ ∀ h : Heap, (∀ q ∈ rs, h.get? q.1 = some q.2) → ∃ as, Reads h v d as
noncomputable def KV (rs : List (Addr × Obj)) (kvs : List (Int × Value)) : Prop := ∀ k v, valueAt kvs k = some v → ∃ d, RecD rs v d ∧ d.depth ≤ 8
theorem RecD.int {rs : List (Addr × Obj)} {i : Int} {t : Tok} : RecD rs (.int i t) (.int i) := ⟨rfl, fun _ _ => ⟨_, .int i t⟩⟩
theorem shaped_str {x : PySem.Str} (hx : Low x) : PyData.strOk x = true := by
  unfold PyData.strOk
  unfold Low at hx
  rw [Array.all_eq_true] at hx ⊢
  intro i hi
  have := hx i hi
  simp only [decide_eq_true_eq] at this ⊢
  omega
theorem RecD.str {rs : List (Addr × Obj)} {x : PySem.Str} {t : Tok} (hx : Low x) : RecD rs (.str x t) (.str x) := ⟨by simp [shaped, PyData.canLay0, shaped_str hx, PyData.depth], fun _ _ => ⟨_, .str x t⟩⟩
theorem RecD.mono {rs rs' : List (Addr × Obj)} {v : Value} {d : PyData} (x : RecD rs v d) (h : ∀ q ∈ rs, q ∈ rs') : RecD rs' v d := ⟨x.1, fun hp hh => x.2 hp fun q hq => hh q (h q hq)⟩
theorem KV.mono {rs rs' : List (Addr × Obj)} {kvs : List (Int × Value)} (x : KV rs kvs) (h : ∀ q ∈ rs, q ∈ rs') : KV rs' kvs := fun k v e => let ⟨d, hd, hp⟩ := x k v e; ⟨d, hd.mono h, hp⟩
theorem KV.nil {rs : List (Addr × Obj)} : KV rs [] := fun _ _ e => nomatch e
theorem KV.stored {rs : List (Addr × Obj)} {kvs : List (Int × Value)} {k : Int} {v : Value} {d : PyData} (x : KV rs kvs) (hd : RecD rs v d) (hp : d.depth ≤ 8) : KV rs (stored kvs k v) := fun j u e => by
  rw [va_stored] at e
  split at e
  · cases e; exact ⟨d, hd, hp⟩
  · exact x j u e
theorem RecD.row {rs : List (Addr × Obj)} {r t1 t2 : Addr} {rn : Nat} {x : PySem.Str} {ta tb tc td : Tok} {z : Int} (h1 : (r, listOf #[.ref t1, .ref t2] rn) ∈ rs) (h2 : (t1, tupO [.int 0 ta, .int z tb]) ∈ rs) (h3 : (t2, tupO [.int 5 tc, .str x td]) ∈ rs) (hx : Low x) :
    RecD rs (.ref r) (.list [.tuple [.int 0, .int z], .tuple [.int 5, .str x]]) :=
  ⟨by simp [shaped, PyData.canLay0, PyData.canLayAll0, shaped_str hx, PyData.depth, PyData.depthAll], fun h hh => ⟨_, .list (hh _ h1) rfl rfl (.cons (.tuple (hh _ h2) rfl rfl (.cons (.int _ _) (.cons (.int _ _) .nil))) (.cons (.tuple (hh _ h3) rfl rfl (.cons (.int _ _) (.cons (.str _ _) .nil))) .nil))⟩⟩
theorem numV_same8 {rs : List (Addr × Obj)} {kvs : List (Int × Value)} {k : Int} {v v' : Value} (x : KV rs kvs) (a : NumV kvs k v) (b : NumV kvs k v') : ∃ d, RecD rs v d ∧ RecD rs v' d ∧ d.depth ≤ 8 := by
  unfold NumV at a b
  cases e : valueAt kvs k with
  | none =>
    rw [e] at a b
    obtain ⟨t, rfl⟩ := a
    obtain ⟨t', rfl⟩ := b
    exact ⟨_, .int, .int, by simp [PyData.depth]⟩
  | some u =>
    rw [e] at a b
    obtain rfl := a
    obtain rfl := b
    obtain ⟨d, hd, hp⟩ := x k _ e
    exact ⟨d, hd, hd, hp⟩
theorem numV_same {rs : List (Addr × Obj)} {kvs : List (Int × Value)} {k : Int} {v v' : Value} (x : KV rs kvs) (a : NumV kvs k v) (b : NumV kvs k v') : ∃ d, RecD rs v d ∧ RecD rs v' d := let ⟨d, h1, h2, _⟩ := numV_same8 x a b; ⟨d, h1, h2⟩
theorem numV_any {rs : List (Addr × Obj)} {kvs : List (Int × Value)} {k : Int} {v : Value} (x : KV rs kvs) (a : NumV kvs k v) : ∃ d, RecD rs v d := let ⟨d, h, _⟩ := numV_same x a a; ⟨d, h⟩
theorem numV_stored {kvs : List (Int × Value)} {k j : Int} {v V : Value} (a : NumV (stored kvs k V) j v) : (j = k ∧ v = V) ∨ (j ≠ k ∧ NumV kvs j v) := by
  unfold NumV at a ⊢
  rw [va_stored] at a
  by_cases h : j = k
  · rw [if_pos h] at a; exact .inl ⟨h, a⟩
  · rw [if_neg h] at a; exact .inr ⟨h, a⟩
section
variable {prog : Program} {w : World} {A : Around} {E : Value → Shared → Prop} {s : Shared} {a b : Value} {rs : List (Addr × Obj)} {d d' : PyData} {Q : Value → Shared → Prop} {g : Heap} {L : Addr} {news : List (Addr × Obj)}
theorem cmpNe (N : News g L s.heap news) (hs : ∀ q ∈ rs, q ∈ news) (ha : RecD rs a d) (hb : RecD rs b d) (hu : A.units + 64 < cLine) (h : Q (.bool false) s) : wpAny (model prog w) A (compareOp .NotEq a b) Q E s := by
  obtain ⟨as, ra⟩ := ha.2 s.heap fun q hq => (N q (hs q hq)).1
  obtain ⟨bs, rb⟩ := hb.2 s.heap fun q hq => (N q (hs q hq)).1
  exact ne_dataH ra rb ha.1 hb.1 hu (by rw [eqv_refl d (canLay_of_shaped ha.1)]; exact h)
theorem cmpNeAny (N : News g L s.heap news) (hs : ∀ q ∈ rs, q ∈ news) (ha : RecD rs a d) (hb : RecD rs b d') (hu : A.units + 64 < cLine) (h : ∀ c, Q (.bool c) s) : wpAny (model prog w) A (compareOp .NotEq a b) Q E s := by
  obtain ⟨as, ra⟩ := ha.2 s.heap fun q hq => (N q (hs q hq)).1
  obtain ⟨bs, rb⟩ := hb.2 s.heap fun q hq => (N q (hs q hq)).1
  exact ne_dataH ra rb ha.1 hb.1 hu (h _)
theorem cmpEq (N : News g L s.heap news) (hs : ∀ q ∈ rs, q ∈ news) (ha : RecD rs a d) (hb : RecD rs b d) (hu : A.units + 64 < cLine) (h : Q (.bool true) s) : wpAny (model prog w) A (compareOp .Eq a b) Q E s := by
  obtain ⟨as, ra⟩ := ha.2 s.heap fun q hq => (N q (hs q hq)).1
  obtain ⟨bs, rb⟩ := hb.2 s.heap fun q hq => (N q (hs q hq)).1
  exact eq_dataH ra rb ha.1 hb.1 hu (by rw [eqv_refl d (canLay_of_shaped ha.1)]; exact h)
theorem cmpEqF (N : News g L s.heap news) (hs : ∀ q ∈ rs, q ∈ news) (ha : RecD rs a d) (hb : RecD rs b d') (hn : PyData.eqv d d' = false) (hu : A.units + 64 < cLine) (h : Q (.bool false) s) : wpAny (model prog w) A (compareOp .Eq a b) Q E s := by
  obtain ⟨as, ra⟩ := ha.2 s.heap fun q hq => (N q (hs q hq)).1
  obtain ⟨bs, rb⟩ := hb.2 s.heap fun q hq => (N q (hs q hq)).1
  exact eq_dataH ra rb ha.1 hb.1 hu (by rw [hn]; exact h)
end
section
variable {prog : Program} {w : World} {A : Around} {s : Shared} {base : Heap} {outer : List Env} {mean : ExcName → Option Value} {mg mb : Str → Option Value}
  {R : Result → Shared → Prop} {u du f df rc nb : Addr} {ui : UI} {fi : FI} {p : Value} {on : Obj} {kvs : List (Int × Value)} {k : Int} {tk : Tok}
theorem deed_writeDS {x : PySem.Str} {t : Tok} (S : St w mean mg mb base) (hd : on.IsDictOf (intKind prog w) kvs) (lo : (nb == sysModules) = false) (hz : kvs.length ≤ 1000) (hx : x.length ≤ 8) (hl8 : fi.len ≤ 8) (D : Dist [(u, instObj 142 du), (du, unitD w ui f p), (f, instObj 100 df), (df, fileD w fi "DIRECT" rc nb), (nb, on)]) :
    DeedK prog w base [(u, instObj 142 du), (du, unitD w ui f p), (f, instObj 100 df), (df, fileD w fi "DIRECT" rc nb), (nb, on)] 6 286 [.ref u, .int k tk, .str x t] (fun new v => (v ≠ .none ∧ (∃ c tz, v = .int c tz) ∧ ¬ (0 < k ∧ (x.length : Int) ≤ fi.len) ∧ new = []) ∨ (v = .none ∧ (0 < k ∧ (x.length : Int) ≤ fi.len) ∧ ∃ o', (∃ V, (∃ t0, V = .str (x ++ Txt.mul (PySem.Str.ofString " ") (fi.len - (x.length : Int))) t0) ∧ o'.IsDictOf (intKind prog w) (stored kvs k V)) ∧ new = [(du, unitD w ui f (.int k tk)), (nb, o')])) := by
  intro A' outer' s' R' B Rm H kk kx
  by_cases h1 : k < 1
  · refine writeD_ltS S B Rm H hd lo hz hx h1 fun h' tk' e x1 x2 => kx h' tk' e 51 18 [] x1 (fun q hq => nomatch hq) (fun q hq => nomatch hq) x2 (.inl ⟨rfl, fun tz => .inl ⟨by simp, ⟨_, _, rfl⟩, by omega, rfl⟩⟩)
  · by_cases h2 : fi.len < (x.length : Int)
    · refine writeD_longS S B Rm H hd lo hz hx (by omega) h2 fun h' tk' e x1 x2 => kx h' tk' e 51 19 [] x1 (fun q hq => nomatch hq) (fun q hq => nomatch hq) x2 (.inl ⟨rfl, fun tz => .inl ⟨by simp, ⟨_, _, rfl⟩, by omega, rfl⟩⟩)
    · refine writeD_okS S B Rm H D hd lo hz hx (by omega) (by omega) hl8 fun h' tk' o' t0 x1 x2 x3 x4 => kk h' tk' .none [(du, unitD w ui f (.int k tk)), (nb, o')] x1 (fun q hq => ?_) (fun q hq => ?_) (.inr ⟨rfl, by omega, o', ⟨_, ⟨t0, rfl⟩, x4⟩, rfl⟩)
      · rcases List.mem_cons.mp hq with rfl | hq
        · exact x2
        · rw [List.mem_singleton.mp hq]; exact x3
      · rcases List.mem_cons.mp hq with rfl | hq
        · exact ⟨_, .tail _ (.head _)⟩
        · rw [List.mem_singleton.mp hq]; exact ⟨_, .tail _ (.tail _ (.tail _ (.tail _ (.head _))))⟩
theorem deed_writeDL {x : PySem.Str} {r t1 t2 : Addr} {rn : Nat} {ta tb tc td : Tok} (S : St w mean mg mb base) (hd : on.IsDictOf (intKind prog w) kvs) (lo : (nb == sysModules) = false) (hz : kvs.length ≤ 1000) (hx : x.length ≤ 8) (hl8 : fi.len ≤ 8) (D : Dist [(u, instObj 142 du), (du, unitD w ui f p), (f, instObj 100 df), (df, fileD w fi "DIRECT" rc nb), (nb, on), (r, listOf #[.ref t1, .ref t2] rn), (t1, tupO [.int 0 ta, .int (x.length : Int) tb]), (t2, tupO [.int 5 tc, .str x td])]) :
    DeedK prog w base [(u, instObj 142 du), (du, unitD w ui f p), (f, instObj 100 df), (df, fileD w fi "DIRECT" rc nb), (nb, on), (r, listOf #[.ref t1, .ref t2] rn), (t1, tupO [.int 0 ta, .int (x.length : Int) tb]), (t2, tupO [.int 5 tc, .str x td])] 6 286 [.ref u, .int k tk, .ref r] (fun new v => (v ≠ .none ∧ (∃ c tz, v = .int c tz) ∧ ¬ (0 < k ∧ (1 + (x.length : Int)) ≤ fi.len) ∧ new = []) ∨ (v = .none ∧ (0 < k ∧ (1 + (x.length : Int)) ≤ fi.len) ∧ ∃ o', (∃ V, (V = .ref r) ∧ o'.IsDictOf (intKind prog w) (stored kvs k V)) ∧ new = [(du, unitD w ui f (.int k tk)), (nb, o')])) := by
  intro A' outer' s' R' B Rm H kk kx
  by_cases h1 : k < 1
  · refine writeD_ltL S B Rm H hd lo hz hx h1 fun h' tk' e x1 x2 => kx h' tk' e 51 18 [] x1 (fun q hq => nomatch hq) (fun q hq => nomatch hq) x2 (.inl ⟨rfl, fun tz => .inl ⟨by simp, ⟨_, _, rfl⟩, by omega, rfl⟩⟩)
  · by_cases h2 : fi.len < (1 + (x.length : Int))
    · refine writeD_longL S B Rm H hd lo hz hx (by omega) h2 fun h' tk' e x1 x2 => kx h' tk' e 51 19 [] x1 (fun q hq => nomatch hq) (fun q hq => nomatch hq) x2 (.inl ⟨rfl, fun tz => .inl ⟨by simp, ⟨_, _, rfl⟩, by omega, rfl⟩⟩)
    · refine writeD_okL S B Rm H D hd lo hz hx (by omega) (by omega) hl8 fun h' tk' o' t0 x1 x2 x3 x4 => kk h' tk' .none [(du, unitD w ui f (.int k tk)), (nb, o')] x1 (fun q hq => ?_) (fun q hq => ?_) (.inr ⟨rfl, by omega, o', ⟨_, rfl, x4⟩, rfl⟩)
      · rcases List.mem_cons.mp hq with rfl | hq
        · exact x2
        · rw [List.mem_singleton.mp hq]; exact x3
      · rcases List.mem_cons.mp hq with rfl | hq
        · exact ⟨_, .tail _ (.head _)⟩
        · rw [List.mem_singleton.mp hq]; exact ⟨_, .tail _ (.tail _ (.tail _ (.tail _ (.head _))))⟩
end
section
variable {prog : Program} {w : World} {A : Around} {s : Shared} {base g : Heap} {outer : List Env} {mean : ExcName → Option Value} {mg mb : Str → Option Value}
  {L a : Addr} {m : Str → Option Value} {news : List (Addr × Obj)} {env : Env} {Q E : Value → Shared → Prop} {u du f df rc nb : Addr} {ui : UI} {fi : FI} {pa : Addr} {pn : Nat} {g₀ : Heap} {g1 g2 gg : Obj → List (Addr × Obj)}
theorem heardWDS_K {hpS : Heap} {gnS : Array GenState} {drS : Drawn} {tkS : Nat} {osS : OsState} {x : PySem.Str} {t : Tok} {p : Value} {on : Obj} {kvs : List (Int × Value)} {k : Int} {tk : Tok} (S : St w mean mg mb base) (B : Below A base outer g) (F : Fr g L hpS m) (N : News g L hpS news) (Rm : Room A 9) (T0 : KtsTurn (fs outer) g₀ g)
    (hp0 : (pa, listOf #[.int k tk, .str x t] pn) ∈ news) (h1 : ∀ q ∈ [(u, instObj 142 du), (du, unitD w ui f p), (f, instObj 100 df), (df, fileD w fi "DIRECT" rc nb), (nb, on)], q ∈ news) (hd : on.IsDictOf (intKind prog w) kvs) (lo : (nb == sysModules) = false) (hz : kvs.length ≤ 1000) (hx : x.length ≤ 8) (hl8 : fi.len ≤ 8) (D : Dist [(u, instObj 142 du), (du, unitD w ui f p), (f, instObj 100 df), (df, fileD w fi "DIRECT" rc nb), (nb, on)]) (Dp : AllNe pa [(u, instObj 142 du), (du, unitD w ui f p), (f, instObj 100 df), (df, fileD w fi "DIRECT" rc nb), (nb, on)]) (U1 : UpdF du (unitD w ui f p) news g1) (U2 : UpdF nb on (g1 (unitD w ui f (.int k tk))) g2) (hbd : du ≠ nb)
    (kn : Halt (∀ h' tk' c tz g', KtsTurn (fs outer) g₀ g' → Fr g' L h' m → Below A base outer g' → News g' L h' news → ¬ (0 < k ∧ (x.length : Int) ≤ fi.len) → Q (.int c tz) ⟨h', gnS, drS, tk', osS⟩))
    (ky : Halt (∀ h' tk' g' o' V, KtsTurn (fs outer) g₀ g' → Fr g' L h' m → Below A base outer g' → News g' L h' (g2 o') → (0 < k ∧ (x.length : Int) ≤ fi.len) → (∃ t0, V = .str (x ++ Txt.mul (PySem.Str.ofString " ") (fi.len - (x.length : Int))) t0) → o'.IsDictOf (intKind prog w) (stored kvs k V) → Q .none ⟨h', gnS, drS, tk', osS⟩))
    (hf : env.frame = some L := by rfl) (hk : env.scope.kind = .function := by rfl) :
    wpAny (model prog w) (A.deeper env) (call (.ref 306) [.ref 286, .ref u, .ref pa]) Q E ⟨hpS, gnS, drS, tkS, osS⟩ := by
  refine wpAny_call (heard286 (td := 0) (pn := pn) S (pushX B F hf hk) (Rm.deeper (by decide)) (has_ofX hf B N (List.forall_mem_cons.mpr ⟨hp0, h1⟩)) Dp (deed_writeDS (k := k) (tk := tk) S hd lo hz hx hl8 D) fun h' tk' v new x1 x2 x3 x4 => ?_)
  rw [fsX hf] at x1
  rcases x4 with ⟨_, ⟨c, tz, rfl⟩, hno, rfl⟩ | ⟨rfl, hyes, o', ⟨V, hV, hd'⟩, rfl⟩
  · obtain ⟨g', T', F', B', N'⟩ := useB0 x1 B F N
    exact kn h' tk' c tz g' (T0.trans T') F' B' N' hno
  · obtain ⟨g', T', F', B', N'⟩ := useB2 x1 B F N U1 U2 hbd (x2 _ (.head _)) (x2 _ (.tail _ (.head _)))
    exact ky h' tk' g' o' V (T0.trans T') F' B' N' hyes hV hd'
theorem heardWDL_K {hpS : Heap} {gnS : Array GenState} {drS : Drawn} {tkS : Nat} {osS : OsState} {x : PySem.Str} {r t1 t2 : Addr} {rn : Nat} {ta tb tc td : Tok} {p : Value} {on : Obj} {kvs : List (Int × Value)} {k : Int} {tk : Tok} (S : St w mean mg mb base) (B : Below A base outer g) (F : Fr g L hpS m) (N : News g L hpS news) (Rm : Room A 9) (T0 : KtsTurn (fs outer) g₀ g)
    (hp0 : (pa, listOf #[.int k tk, .ref r] pn) ∈ news) (h1 : ∀ q ∈ [(u, instObj 142 du), (du, unitD w ui f p), (f, instObj 100 df), (df, fileD w fi "DIRECT" rc nb), (nb, on), (r, listOf #[.ref t1, .ref t2] rn), (t1, tupO [.int 0 ta, .int (x.length : Int) tb]), (t2, tupO [.int 5 tc, .str x td])], q ∈ news) (hd : on.IsDictOf (intKind prog w) kvs) (lo : (nb == sysModules) = false) (hz : kvs.length ≤ 1000) (hx : x.length ≤ 8) (hl8 : fi.len ≤ 8) (D : Dist [(u, instObj 142 du), (du, unitD w ui f p), (f, instObj 100 df), (df, fileD w fi "DIRECT" rc nb), (nb, on), (r, listOf #[.ref t1, .ref t2] rn), (t1, tupO [.int 0 ta, .int (x.length : Int) tb]), (t2, tupO [.int 5 tc, .str x td])]) (Dp : AllNe pa [(u, instObj 142 du), (du, unitD w ui f p), (f, instObj 100 df), (df, fileD w fi "DIRECT" rc nb), (nb, on), (r, listOf #[.ref t1, .ref t2] rn), (t1, tupO [.int 0 ta, .int (x.length : Int) tb]), (t2, tupO [.int 5 tc, .str x td])]) (U1 : UpdF du (unitD w ui f p) news g1) (U2 : UpdF nb on (g1 (unitD w ui f (.int k tk))) g2) (hbd : du ≠ nb)
    (kn : Halt (∀ h' tk' c tz g', KtsTurn (fs outer) g₀ g' → Fr g' L h' m → Below A base outer g' → News g' L h' news → ¬ (0 < k ∧ (1 + (x.length : Int)) ≤ fi.len) → Q (.int c tz) ⟨h', gnS, drS, tk', osS⟩))
    (ky : Halt (∀ h' tk' g' o' V, KtsTurn (fs outer) g₀ g' → Fr g' L h' m → Below A base outer g' → News g' L h' (g2 o') → (0 < k ∧ (1 + (x.length : Int)) ≤ fi.len) → (V = .ref r) → o'.IsDictOf (intKind prog w) (stored kvs k V) → Q .none ⟨h', gnS, drS, tk', osS⟩))
    (hf : env.frame = some L := by rfl) (hk : env.scope.kind = .function := by rfl) :
    wpAny (model prog w) (A.deeper env) (call (.ref 306) [.ref 286, .ref u, .ref pa]) Q E ⟨hpS, gnS, drS, tkS, osS⟩ := by
  refine wpAny_call (heard286 (td := 0) (pn := pn) S (pushX B F hf hk) (Rm.deeper (by decide)) (has_ofX hf B N (List.forall_mem_cons.mpr ⟨hp0, h1⟩)) Dp (deed_writeDL (k := k) (tk := tk) S hd lo hz hx hl8 D) fun h' tk' v new x1 x2 x3 x4 => ?_)
  rw [fsX hf] at x1
  rcases x4 with ⟨_, ⟨c, tz, rfl⟩, hno, rfl⟩ | ⟨rfl, hyes, o', ⟨V, hV, hd'⟩, rfl⟩
  · obtain ⟨g', T', F', B', N'⟩ := useB0 x1 B F N
    exact kn h' tk' c tz g' (T0.trans T') F' B' N' hno
  · obtain ⟨g', T', F', B', N'⟩ := useB2 x1 B F N U1 U2 hbd (x2 _ (.head _)) (x2 _ (.tail _ (.head _)))
    exact ky h' tk' g' o' V (T0.trans T') F' B' N' hyes hV hd'
theorem numbered_K {hpS : Heap} {gnS : Array GenState} {drS : Drawn} {tkS : Nat} {osS : OsState} {p : Value} {on : Obj} {kvs : List (Int × Value)} (S : St w mean mg mb base) (B : Below A base outer g) (F : Fr g L hpS m) (N : News g L hpS news) (Rm : Room A 10) (T0 : KtsTurn (fs outer) g₀ g)
    (h1 : ∀ q ∈ [(u, instObj 142 du), (du, unitD w ui f p), (f, instObj 100 df), (df, fileD w fi "DIRECT" rc nb), (nb, on)], q ∈ news) (hd : on.IsDictOf (intKind prog w) kvs) (lo : (nb == sysModules) = false) (D : Dist [(u, instObj 142 du), (du, unitD w ui f p), (f, instObj 100 df), (df, fileD w fi "DIRECT" rc nb), (nb, on)]) (U : UpdF du (unitD w ui f p) news gg)
    (kk : Halt (∀ h' tk g' p' r v1 v2 v3 v4 rn, KtsTurn (fs outer) g₀ g' → Fr g' L h' m → Below A base outer g' → News g' L h' ((r, listOf #[v1, v2, v3, v4] rn) :: gg (unitD w ui f p')) → AllNe r news → NumV kvs 1 v1 → NumV kvs 2 v2 → NumV kvs 3 v3 → NumV kvs 4 v4 → Q (.ref r) ⟨h', gnS, drS, tk, osS⟩))
    (hf : env.frame = some L := by rfl) (hk : env.scope.kind = .function := by rfl) :
    wpAny (model prog w) (A.deeper env) (call (.ref 311) [.ref u]) Q E ⟨hpS, gnS, drS, tkS, osS⟩ := by
  refine wpAny_call (numbered S (pushX B F hf hk) (Rm.deeper (by decide)) (has_ofX hf B N h1) D hd lo fun h' tk p' r v1 v2 v3 v4 rn x1 x2 x3 x4 y1 y2 y3 y4 => ?_)
  rw [fsX hf] at x1
  obtain ⟨g', T', F', B', N'⟩ := useB1 x1 B F N U x2
  exact kk h' tk g' p' r v1 v2 v3 v4 rn (T0.trans T') F' B' (useNew F x4 x3 N' (T'.none_ _ (new_none F x4))) (new_ne N x4) y1 y2 y3 y4
end
end
section
open PySem PySem.W PyProof.Rows PySem.Spec PySem.Calls
open PyProof.Rows.LCg
section
variable {prog : Program} {w : World} {A A₀ : Around} {E : Value → Shared → Prop} {base g₀ : Heap} {outer : List Env} {L : Addr} {m : Str → Option Value} {env : Env}
noncomputable def block_F_P (prog : Program) (w : World) (A : Around) (E : Value → Shared → Prop) (g₀ : Heap) (L : Addr) (m : Str → Option Value) (env : Env) (elt : Expr) (iter : Expr) (c : Expr) (x : Str) (px : Pos) (scope : Scope) (cl : List (Str × Addr)) (pos : Pos) (s₂ : Shared) (I : Addr) (fp : List Addr) (n : Nat) (P : Nat → Value → Prop) (St : Nat → Heap → Prop) (news : List (Addr × Obj)) (RR : Value → Addr → Result → Shared → Prop) : Prop := ∀ (W : Walks prog w A I fp [I] n P St) (hsz : n ≤ sizeLine) (hIo : ∀ i h, St i h → ∃ o, h.get? I = some o) (hSt : ∀ i h h' o, St i h → h.get? I = some o → h'.get? I = some o → St i h') (hcell : ∀ y ∈ scope.names, y.2 ≠ .cell) (hkind : scope.kind = .function) (hx : scope.names.lookup x = some .local) (hst : St 0 s₂.heap) (hfp : ∀ b ∈ fp, b < s₂.heap.objs.size) (F : Fr g₀ L s₂.heap m) (N : News g₀ L s₂.heap news) (hIL : L ≠ I) (hI₀ : g₀.get? I = none) (off : ∀ p ∈ news, p.1 ≠ I) (turn : ∀ i v I oI C oC D m₂ h tk (E' : Value → Shared → Prop), i < n → P i v → NsObj oC m₂ → m₂ x = some v → Fr g₀ L h m → News g₀ L h ((I, oI) :: (C, oC) :: (D, lst []) :: news) → Off3 I C D news → ((@Ne Nat I C) ∧ (@Ne Nat I D) ∧ (@Ne Nat C D)) → wpAny (model prog w) A (isTrue c (compEnvC scope cl C env) (eval c (compEnvC scope cl C env))) (fun b s' => b = false ∧ ∃ h' tk', s' = { s₂ with heap := h', toks := tk' } ∧ Fr g₀ L h' m ∧ News g₀ L h' ((I, oI) :: (C, oC) :: (D, lst []) :: news)) E' { s₂ with heap := h, toks := tk }) (hRR : ∀ D C h tk m', Fr g₀ L h m → News g₀ L h ((D, lst []) :: news) → Off1 D news → h.Ns C m' → g₀.get? C = none → g₀.get? D = none → C ≠ L → D ≠ L → C ≠ D → (∀ p ∈ news, p.1 ≠ C) → RR (.ref D) C (.ok .next) { s₂ with heap := h, toks := tk }), wpAny (model prog w) A (newList []) (fun acc s₃ => wpAny (model prog w) A (newFunctionEnv scope env.globals cl [] env.qual none .none (some env)) (fun cenv s₄ =>
      codeAny (model prog w) A (.compStart (.ListComp elt [⟨.Name x px, iter, [c], 0⟩] scope pos) 0 (.ref I) acc { cenv with scope := relabel scope env }) (RR acc cenv.locals) s₄) E s₃) E s₂
noncomputable def block_F_q (x : (((((Program × World) × Around) × (((Value → Shared → Prop) × Heap) × Addr)) × ((((Str → Option Value) × Env) × Expr) × ((Expr × Expr) × Str))) × ((((Pos × Scope) × List (Str × Addr)) × ((Pos × Shared) × Addr)) × (((List Addr × Nat) × (Nat → Value → Prop)) × (((Nat → Heap → Prop) × List (Addr × Obj)) × (Value → Addr → Result → Shared → Prop)))))) : Prop := block_F_P x.1.1.1.1.1 x.1.1.1.1.2 x.1.1.1.2 x.1.1.2.1.1 x.1.1.2.1.2 x.1.1.2.2 x.1.2.1.1.1 x.1.2.1.1.2 x.1.2.1.2 x.1.2.2.1.1 x.1.2.2.1.2 x.1.2.2.2 x.2.1.1.1.1 x.2.1.1.1.2 x.2.1.1.2 x.2.1.2.1.1 x.2.1.2.1.2 x.2.1.2.2 x.2.2.1.1.1 x.2.2.1.1.2 x.2.2.1.2 x.2.2.2.1.1 x.2.2.2.1.2 x.2.2.2.2
noncomputable def block_F_c := @Classical.epsilon _ ⟨(((((PySem.Challenge.pw_sa0211_01, aWorld 1), {}), ((fun _ _ => True, {}), 0)), (((fun _ => none, default), default), ((default, default), Str.ofString ""))), ((((default, default), default), ((default, {}), 0)), (((default, 0), default), ((default, []), default))))⟩ fun x => ¬ block_F_q x
theorem block_F_k : block_F_q block_F_c := by
  refine (?fq : ∀ (prog : Program) (w : World) (A : Around) (E : Value → Shared → Prop) (g₀ : Heap) (L : Addr) (m : Str → Option Value) (env : Env) (elt : Expr) (iter : Expr) (c : Expr) (x : Str) (px : Pos) (scope : Scope) (cl : List (Str × Addr)) (pos : Pos) (s₂ : Shared) (I : Addr) (fp : List Addr) (n : Nat) (P : Nat → Value → Prop) (St : Nat → Heap → Prop) (news : List (Addr × Obj)) (RR : Value → Addr → Result → Shared → Prop), block_F_P prog w A E g₀ L m env elt iter c x px scope cl pos s₂ I fp n P St news RR) _ _ _ _ _ _ _ _ _ _ _ _ _ _ _ _ _ _ _ _ _ _ _ _ 
  intro prog w A E g₀ L m env elt iter c x px scope cl pos s₂ I fp n P St news RR W hsz hIo hSt hcell hkind hx hst hfp F N hIL hI₀ off turn hRR
  refine wpAny_newObj_type (wpAny_newFunctionEnv hcell (by intro y hy; simp at hy) (fun h₁ hns₁ hsb₁ => ?_) hkind)
  dsimp only at hns₁ hsb₁ ⊢
  generalize hH2 : s₂.heap.push { cls := .type "list", dict := none, data := .seq ([] : List Value).toArray } = H2 at hns₁ hsb₁ ⊢
  have hC : H2.objs.size = s₂.heap.objs.size + 1 := by rw [← hH2, Heap.size_push]
  have hDC : s₂.heap.objs.size ≠ H2.objs.size := by rw [hC]; exact Nat.ne_of_lt (Nat.lt_succ_self _)
  have below : ∀ b, b < s₂.heap.objs.size → b ≠ H2.objs.size ∧ b ≠ s₂.heap.objs.size := fun b hb => ⟨by rw [hC]; exact Nat.ne_of_lt (Nat.lt_succ_of_lt hb), Nat.ne_of_lt hb⟩
  have hDf : s₂.heap.objs.size ∉ fp := fun hm => Nat.lt_irrefl _ (hfp _ hm)
  have hCf : H2.objs.size ∉ fp := fun hm => by have := hfp _ hm; rw [hC] at this; exact Nat.lt_irrefl _ (Nat.lt_of_succ_lt this)
  have hIf : I ∈ fp := W.sub I (List.mem_singleton.mpr rfl)
  have hIlt : I < s₂.heap.objs.size := hfp I hIf
  have old : ∀ b o, s₂.heap.get? b = some o → h₁.get? b = some o := fun b o e => hsb₁.extBut b o (below b (Heap.lt_size e)).1 (Heap.get?_push_of_some _ (hH2 ▸ Heap.get?_push_of_some _ e))
  have hacc : h₁.get? s₂.heap.objs.size = some (lst []) := hsb₁.extBut _ _ hDC (Heap.get?_push_of_some _ (hH2 ▸ Heap.get?_push_size _ rfl))
  have hst₁ : St 0 h₁ := W.frame _ _ _ hst fun b _ o e => old b o e
  have fresh : ∀ a, s₂.heap.objs.size ≤ a → s₂.heap.get? a = none := fun a ha => by
    cases e : s₂.heap.get? a with
    | none => rfl
    | some o' => exact absurd (Heap.lt_size e) (Nat.not_lt.mpr ha)
  have fresh₀ : ∀ a, s₂.heap.objs.size ≤ a → g₀.get? a = none := fun a ha => by
    cases e : g₀.get? a with
    | none => rfl
    | some o' => have := F.keep a o' e; rw [fresh a ha] at this; cases this
  have hD₀ : g₀.get? s₂.heap.objs.size = none := fresh₀ _ (Nat.le_refl _)
  have hC₀ : g₀.get? H2.objs.size = none := fresh₀ _ (by rw [hC]; exact Nat.le_succ _)
  have hLlt : L < s₂.heap.objs.size := F.ns.lt
  have hDL : s₂.heap.objs.size ≠ L := Ne.symm (below L hLlt).2
  have hCL : H2.objs.size ≠ L := Ne.symm (below L hLlt).1
  have hCI : I ≠ H2.objs.size := (below I hIlt).1
  have hDI : I ≠ s₂.heap.objs.size := (below I hIlt).2
  have off₀ : Off3 I H2.objs.size s₂.heap.objs.size news := Off3.of fun p hp => ⟨off p hp, (below _ (Heap.lt_size (N p hp).1)).1, (below _ (Heap.lt_size (N p hp).1)).2⟩
  have loop : ∀ s₃ : Shared, s₃ = { s₂ with heap := h₁, toks := s₂.toks + ([] : List (Str × Value)).length } →
      codeAny (model prog w) A (.compLoop (.ListComp elt [⟨.Name x px, iter, [c], 0⟩] scope pos) 0 (.ref I) (.ref s₂.heap.objs.size) (compEnvC scope cl H2.objs.size env))
        (RR (.ref s₂.heap.objs.size) H2.objs.size) s₃ := by
    rintro s₃ rfl
    refine codeAny_compLoop_tests
      (fun k s' => ∃ h' tk i m', s' = { s₂ with heap := h', toks := tk } ∧ i ≤ n ∧ k = n + 1 - i ∧ St i h' ∧ Fr g₀ L h' m ∧ h'.Ns H2.objs.size m' ∧ News g₀ L h' ((s₂.heap.objs.size, lst []) :: news)) ?_ (n + 1)
      ⟨h₁, _, 0, _, rfl, Nat.zero_le _, rfl, hst₁, F.keeps old, hns₁, fun p hp => ?_⟩
    · rintro k s' ⟨h', tk, i, m', rfl, hi, rfl, hst', F', hn', N'⟩
      have off3 := off₀.mem
      by_cases hlt : i < n
      · refine W.item i _ _ _ hlt hst' fun v h₂ tk₂ hPv hst₂ hk₂ => ?_
        refine wpAny_assign_Name (wpAny_storeName_local (lookup_relabel_local hx) (hn'.at' fun o e => hk₂ _ o (by simpa using Ne.symm hCI) e) (fun h₃ hn₃ hs₃ => ?_) (by simp [compEnvC, relabel, hkind]))
        have hst₃ : St (i + 1) h₃ := W.frame _ _ _ hst₂ fun b hb o e => hs₃.extBut b o (fun q => hCf (by have q' : b = H2.objs.size := q; rw [← q']; exact hb)) e
        obtain ⟨oI, heI⟩ := hIo _ _ hst₃
        obtain ⟨oC, heC, hoC⟩ := ns_obj hn₃
        have F₃ : Fr g₀ L h₃ m := (fr_but F' hk₂ hIL hI₀).change hs₃ hCL hC₀
        have N₂ : News g₀ L h₂ ((s₂.heap.objs.size, lst []) :: news) := news_but N' hk₂ fun p hp => by
          rcases List.mem_cons.mp hp with rfl | hp
          · exact Ne.symm hDI
          · exact (off3 p hp).1
        have N₃ : News g₀ L h₃ ((I, oI) :: (H2.objs.size, oC) :: (s₂.heap.objs.size, lst []) :: news) := fun p hp => by
          rcases List.mem_cons.mp hp with rfl | hp
          · exact ⟨heI, Ne.symm hIL, hI₀⟩
          · rcases List.mem_cons.mp hp with rfl | hp
            · exact ⟨heC, hCL, hC₀⟩
            · have z := N₂ p hp
              refine ⟨hs₃.extBut _ _ ?_ z.1, z.2⟩
              rcases List.mem_cons.mp hp with rfl | hp
              · exact hDC
              · exact (off3 p hp).2.1
        refine wpAny_tests_one (wpAny_mono (turn i v I oI H2.objs.size oC s₂.heap.objs.size _ h₃ _ _ hlt hPv hoC (by simp) F₃ N₃ off₀ ⟨hCI, hDI, Ne.symm hDC⟩) (fun b s₄ h₄ => ?_) fun _ _ e => e)
        obtain ⟨rfl, h₅, tk₅, rfl, F₅, N₅⟩ := h₄
        simp only [Bool.false_eq_true, if_false]
        have zI := (N₅ (I, oI) List.mem_cons_self).1
        have zC := (N₅ (H2.objs.size, oC) (List.mem_cons_of_mem _ List.mem_cons_self)).1
        exact ⟨n + 1 - (i + 1), by omega, h₅, tk₅, i + 1, _, rfl, hlt, rfl, hSt _ _ _ _ hst₃ heI zI, F₅, hoC.ns zC, fun p hp => N₅ p (List.mem_cons_of_mem _ (List.mem_cons_of_mem _ hp))⟩
      · obtain rfl : i = n := Nat.le_antisymm hi (Nat.not_lt.mp hlt)
        refine W.done _ _ _ hst' fun h₂ tk₂ hk₂ => ?_
        exact hRR _ _ h₂ tk₂ _ (fr_but F' hk₂ hIL hI₀) (news_but N' hk₂ fun p hp => by
          rcases List.mem_cons.mp hp with rfl | hp
          · exact Ne.symm hDI
          · exact (off3 p hp).1) off₀.one (hn'.at' fun o e => hk₂ _ o (by simpa using Ne.symm hCI) e) hC₀ hD₀ hCL hDL (Ne.symm hDC) (fun p hp => (off3 p hp).2.1)
    · rcases List.mem_cons.mp hp with rfl | hp
      · exact ⟨hacc, hDL, hD₀⟩
      · exact ⟨old _ _ (N p hp).1, (N p hp).2⟩
  exact codeAny_compStart_list (loop _ rfl) (W.self 0 _ _ _ hst₁ (loop _ rfl))
theorem block_F  {elt iter c : Expr} {x : Str} {px : Pos} {scope : Scope} {cl : List (Str × Addr)} {pos : Pos} {s₂ : Shared} {I : Addr} {fp : List Addr} {n : Nat} {P : Nat → Value → Prop} {St : Nat → Heap → Prop} {news : List (Addr × Obj)}
    {RR : Value → Addr → Result → Shared → Prop}
    (W : Walks prog w A I fp [I] n P St) (hsz : n ≤ sizeLine) (hIo : ∀ i h, St i h → ∃ o, h.get? I = some o)
    (hSt : ∀ i h h' o, St i h → h.get? I = some o → h'.get? I = some o → St i h')
    (hcell : ∀ y ∈ scope.names, y.2 ≠ .cell) (hkind : scope.kind = .function) (hx : scope.names.lookup x = some .local) (hst : St 0 s₂.heap) (hfp : ∀ b ∈ fp, b < s₂.heap.objs.size)
    (F : Fr g₀ L s₂.heap m) (N : News g₀ L s₂.heap news) (hIL : L ≠ I) (hI₀ : g₀.get? I = none) (off : ∀ p ∈ news, p.1 ≠ I)
    (turn : ∀ i v I oI C oC D m₂ h tk (E' : Value → Shared → Prop), i < n → P i v → NsObj oC m₂ → m₂ x = some v → Fr g₀ L h m → News g₀ L h ((I, oI) :: (C, oC) :: (D, lst []) :: news) → Off3 I C D news → ((@Ne Nat I C) ∧ (@Ne Nat I D) ∧ (@Ne Nat C D)) →
      wpAny (model prog w) A (isTrue c (compEnvC scope cl C env) (eval c (compEnvC scope cl C env))) (fun b s' => b = false ∧ ∃ h' tk', s' = { s₂ with heap := h', toks := tk' } ∧ Fr g₀ L h' m ∧ News g₀ L h' ((I, oI) :: (C, oC) :: (D, lst []) :: news)) E' { s₂ with heap := h, toks := tk })
    (hRR : ∀ D C h tk m', Fr g₀ L h m → News g₀ L h ((D, lst []) :: news) → Off1 D news → h.Ns C m' → g₀.get? C = none → g₀.get? D = none → C ≠ L → D ≠ L → C ≠ D → (∀ p ∈ news, p.1 ≠ C) → RR (.ref D) C (.ok .next) { s₂ with heap := h, toks := tk }) :
    wpAny (model prog w) A (newList []) (fun acc s₃ => wpAny (model prog w) A (newFunctionEnv scope env.globals cl [] env.qual none .none (some env)) (fun cenv s₄ =>
      codeAny (model prog w) A (.compStart (.ListComp elt [⟨.Name x px, iter, [c], 0⟩] scope pos) 0 (.ref I) acc { cenv with scope := relabel scope env }) (RR acc cenv.locals) s₄) E s₃) E s₂ :=
  hk_ax (P := block_F_q) _ block_F_k (((((prog, w), A), ((E, g₀), L)), (((m, env), elt), ((iter, c), x))), ((((px, scope), cl), ((pos, s₂), I)), (((fp, n), P), ((St, news), RR)))) W hsz hIo hSt hcell hkind hx hst hfp F N hIL hI₀ off turn hRR
noncomputable def SrcF (prog : Program) (w : World) (A : Around) (g₀ : Heap) (L : Addr) (m : Str → Option Value) (env : Env) (c : Expr) (x : Str) (scope : Scope) (cl : List (Str × Addr)) (Q : Value → Shared → Prop) (xv : Value) (s₁ : Shared) : Prop :=
  ∃ r a b t u v n news, xv = .ref r ∧ n ≤ sizeLine ∧ A.handled = none ∧ Fr g₀ L s₁.heap m ∧ News g₀ L s₁.heap news ∧ IsRange s₁.heap r a b 1 t u v ∧ Builtin.Range.small a b 1 = true ∧ Builtin.Range.rangeSize a b 1 = ((n : Nat) : Int) ∧
    (∀ i v I oI C oC D m₂ h tk (E' : Value → Shared → Prop), i < n → (∃ t, v = .int (a + (i : Int)) t) → NsObj oC m₂ → m₂ x = some v → Fr g₀ L h m → News g₀ L h ((I, oI) :: (C, oC) :: (D, lst []) :: news) → Off3 I C D news → ((@Ne Nat I C) ∧ (@Ne Nat I D) ∧ (@Ne Nat C D)) →
      wpAny (model prog w) A (isTrue c (compEnvC scope cl C env) (eval c (compEnvC scope cl C env))) (fun b s' => b = false ∧ ∃ h' tk', s' = { s₁ with heap := h', toks := tk' } ∧ Fr g₀ L h' m ∧ News g₀ L h' ((I, oI) :: (C, oC) :: (D, lst []) :: news)) E' { s₁ with heap := h, toks := tk }) ∧
    (∀ D h tk, Fr g₀ L h m → News g₀ L h ((D, lst []) :: news) → Off1 D news → Q (.ref D) { s₁ with heap := h, toks := tk })
noncomputable def ListComp_F_P (prog : Program) (w : World) (A : Around) (E : Value → Shared → Prop) (g₀ : Heap) (L : Addr) (m : Str → Option Value) (env : Env) (s : Shared) (elt : Expr) (iter : Expr) (c : Expr) (x : Str) (px : Pos) (scope : Scope) (cl : List (Str × Addr)) (pos : Pos) (Q : Value → Shared → Prop) : Prop := ∀ (_F₀ : Fr g₀ L s.heap m) (hclos : closureFor scope env = pure cl) (hcell : ∀ y ∈ scope.names, y.2 ≠ .cell) (hkind : scope.kind = .function) (hnames : ∀ y ∈ scope.names, y.2 = .local → scope.names.lookup y.1 = some .local) (hx : scope.names.lookup x = some .local) (h : wpAny (model prog w) A (eval iter env) (SrcF prog w A g₀ L m env c x scope cl Q) E s) (hs : ∀ x, foldedSetIterable iter env x = pure x), wpAny (model prog w) A (eval (.ListComp elt [⟨.Name x px, iter, [c], 0⟩] scope pos) env) Q E s
noncomputable def ListComp_F_q (x : (((((Program × World) × Around) × ((Value → Shared → Prop) × Heap)) × ((Addr × (Str → Option Value)) × (Env × Shared))) × ((((Expr × Expr) × Expr) × (Str × Pos)) × ((Scope × List (Str × Addr)) × (Pos × (Value → Shared → Prop)))))) : Prop := ListComp_F_P x.1.1.1.1.1 x.1.1.1.1.2 x.1.1.1.2 x.1.1.2.1 x.1.1.2.2 x.1.2.1.1 x.1.2.1.2 x.1.2.2.1 x.1.2.2.2 x.2.1.1.1.1 x.2.1.1.1.2 x.2.1.1.2 x.2.1.2.1 x.2.1.2.2 x.2.2.1.1 x.2.2.1.2 x.2.2.2.1 x.2.2.2.2
noncomputable def ListComp_F_c := @Classical.epsilon _ ⟨(((((PySem.Challenge.pw_sa0211_01, aWorld 1), {}), (fun _ _ => True, {})), ((0, fun _ => none), (default, {}))), ((((default, default), default), (Str.ofString "", default)), ((default, default), (default, fun _ _ => True))))⟩ fun x => ¬ ListComp_F_q x
theorem ListComp_F_k : ListComp_F_q ListComp_F_c := by
  refine (?fq : ∀ (prog : Program) (w : World) (A : Around) (E : Value → Shared → Prop) (g₀ : Heap) (L : Addr) (m : Str → Option Value) (env : Env) (s : Shared) (elt : Expr) (iter : Expr) (c : Expr) (x : Str) (px : Pos) (scope : Scope) (cl : List (Str × Addr)) (pos : Pos) (Q : Value → Shared → Prop), ListComp_F_P prog w A E g₀ L m env s elt iter c x px scope cl pos Q) _ _ _ _ _ _ _ _ _ _ _ _ _ _ _ _ _ _ 
  intro prog w A E g₀ L m env s elt iter c x px scope cl pos Q _F₀ hclos hcell hkind hnames hx h hs
  rw [eval_ListComp]
  refine wpAny_comprehension_free (use := none) rfl hs hclos hkind hnames (wpAny_mono h (fun xv s₁ h₁ => ?_) fun _ _ e => e)
  obtain ⟨r, a, b, t, u, v, n, news, rfl, hsz, hh, F, N, hr, hsm, hn, ht, hd⟩ := h₁
  have up : ∀ (o : Obj) b ob, s₁.heap.get? b = some ob → (s₁.heap.push o).get? b = some ob := fun o b ob e => Heap.get?_push_of_some _ e
  have offs : ∀ p ∈ news, p.1 ≠ s₁.heap.objs.size := fun p hp => Nat.ne_of_lt (Heap.lt_size (N p hp).1)
  refine wpAny_pyIter_range hr hsm ?_
  refine block_F (range_walks hh a n) hsz (fun i h st => ⟨_, st⟩) (fun i h h' o st e e' => by
    have st' : h.get? s₁.heap.objs.size = some _ := st
    show h'.get? s₁.heap.objs.size = some _
    rw [e', ← e]; exact st') hcell hkind hx (by show IsRangeIter _ _ _ _ _; rw [hn]; simpa using Heap.get?_push_size _ rfl) (fun b hb => ?_)
    (F.keeps (up _)) (N.grown (up _)) (Nat.ne_of_lt F.ns.lt) (next_is_new F) offs ht (fun D C h tk m' F' N' o1 hn hC₀ hD₀ hCL hDL hCD offC => ?_)
  · rw [List.mem_singleton.mp hb]
    show s₁.heap.objs.size < (s₁.heap.push _).objs.size
    rw [Heap.size_push]; exact Nat.lt_succ_self _
  · refine ⟨m', hn, fun h'' hs'' => hd D h'' tk (F'.change hs'' hCL hC₀) (fun p hp => ?_) o1⟩
    refine ⟨hs''.extBut _ _ ?_ (N' p hp).1, (N' p hp).2⟩
    rcases List.mem_cons.mp hp with rfl | hp
    · exact Ne.symm hCD
    · exact offC p hp
theorem ListComp_F  {s : Shared} {elt iter c : Expr} {x : Str} {px : Pos} {scope : Scope} {cl : List (Str × Addr)} {pos : Pos} {Q : Value → Shared → Prop} (_F₀ : Fr g₀ L s.heap m)
    (hclos : closureFor scope env = pure cl) (hcell : ∀ y ∈ scope.names, y.2 ≠ .cell) (hkind : scope.kind = .function)
    (hnames : ∀ y ∈ scope.names, y.2 = .local → scope.names.lookup y.1 = some .local) (hx : scope.names.lookup x = some .local)
    (h : wpAny (model prog w) A (eval iter env) (SrcF prog w A g₀ L m env c x scope cl Q) E s)
    (hs : ∀ x, foldedSetIterable iter env x = pure x := by intro _; rfl) :
    wpAny (model prog w) A (eval (.ListComp elt [⟨.Name x px, iter, [c], 0⟩] scope pos) env) Q E s :=
  hk_ax (P := ListComp_F_q) _ ListComp_F_k (((((prog, w), A), (E, g₀)), ((L, m), (env, s))), ((((elt, iter), c), (x, px)), ((scope, cl), (pos, Q)))) _F₀ hclos hcell hkind hnames hx h hs
end
end
section
open PySem PySem.W PyProof.Rows PySem.Spec PySem.Calls PyProof.Rows.LCg PySem.SeqAt
structure OffR (a : Addr) (rs : List (Addr × Obj)) : Prop where
  all : ∀ q ∈ rs, q.1 ≠ a
theorem news_sub {g h : Heap} {L : Addr} {l led : List (Addr × Obj)} (N : News g L h led) (hs : ∀ q ∈ l, q ∈ led) : News g L h l := fun q hq => N q (hs q hq)
theorem pick4 {kv kv' : List (Int × Value)} {w1 w2 w3 w4 y1 y2 y3 y4 : Value} (z1 : NumV kv' 1 w1) (z2 : NumV kv' 2 w2) (z3 : NumV kv' 3 w3) (z4 : NumV kv' 4 w4) (x1 : NumV kv 1 y1) (x2 : NumV kv 2 y2) (x3 : NumV kv 3 y3) (x4 : NumV kv 4 y4) {i : Nat} (hi : i < 4) :
    ∃ W Y, [w1, w2, w3, w4][(0 + (i : Int)).toNat]? = some W ∧ [y1, y2, y3, y4][(0 + (i : Int)).toNat]? = some Y ∧ NumV kv' ((i : Int) + 1) W ∧ NumV kv ((i : Int) + 1) Y := by
  match i, hi with
  | 0, _ => exact ⟨_, _, rfl, rfl, z1, x1⟩
  | 1, _ => exact ⟨_, _, rfl, rfl, z2, x2⟩
  | 2, _ => exact ⟨_, _, rfl, rfl, z3, x3⟩
  | 3, _ => exact ⟨_, _, rfl, rfl, z4, x4⟩
theorem cut_if {M : Model} {A : Around} {E : Value → Shared → Prop} {s : Shared} {t : Sem Flow} {Q : Flow → Shared → Prop} (a : wpAny M A t (fun f s' => f = .next ∧ ∃ tk, s' = { s with toks := tk }) E s) (b : Halt (∀ tk, Q .next { s with toks := tk })) : wpAny M A t Q E s :=
  wpAny_mono a (fun _ _ ⟨e1, tk, e2⟩ => by rw [e1, e2]; exact b tk) fun _ _ x => x
theorem lt5 {k : Int} (h : 0 < k) : k < 5 ∨ 5 ≤ k := by omega
theorem pickV {kvs : List (Int × Value)} {k : Int} {V w1 w2 w3 w4 : Value} (z1 : NumV (stored kvs k V) 1 w1) (z2 : NumV (stored kvs k V) 2 w2) (z3 : NumV (stored kvs k V) 3 w3) (z4 : NumV (stored kvs k V) 4 w4) (h0 : 0 < k) (h5 : k < 5) : [w1, w2, w3, w4][(k - 1).toNat]? = some V := by
  have pick : ∀ {j : Int} {v : Value}, NumV (stored kvs k V) j v → j = k → v = V := fun a e => by
    rcases numV_stored a with ⟨_, h⟩ | ⟨h, _⟩
    · exact h
    · exact absurd e h
  have hk : k = 1 ∨ k = 2 ∨ k = 3 ∨ k = 4 := by omega
  rcases hk with e | e | e | e
  · rw [← pick z1 e.symm, e]; rfl
  · rw [← pick z2 e.symm, e]; rfl
  · rw [← pick z3 e.symm, e]; rfl
  · rw [← pick z4 e.symm, e]; rfl
theorem low_sp : Low (PySem.Str.ofString " ") := by unfold Low; decide +kernel
theorem low_fold {p : Nat → Bool} : ∀ (l : List (Array Nat)) (acc : Array Nat), acc.all p = true → (∀ a ∈ l, a.all p = true) → (l.foldl (· ++ ·) acc).all p = true
  | [], acc, h, _ => h
  | a :: r, acc, h, hl => low_fold r (acc ++ a) (by rw [Array.all_append, h, hl a (.head _)]; rfl) fun b hb => hl b (.tail _ hb)
theorem low_mul {x : PySem.Str} {n : Int} (h : Low x) : Low (Txt.mul x n) := by
  unfold Txt.mul
  split
  · unfold Low; decide +kernel
  · split
    · exact h
    · exact low_fold _ _ (by decide +kernel) fun a ha => by rw [List.eq_of_mem_replicate ha]; exact h
theorem OffR.nil {a : Addr} : OffR a [] := ⟨fun _ h => nomatch h⟩
theorem OffR.cons {a b : Addr} {o : Obj} {rs : List (Addr × Obj)} (h : (@Ne Nat b a)) (x : OffR a rs) : OffR a ((b, o) :: rs) := ⟨fun q hq => by
  rcases List.mem_cons.mp hq with rfl | hq
  · exact h
  · exact x.all q hq⟩
theorem AllNe.tail {x : Addr} {p : Addr × Obj} {l : List (Addr × Obj)} (h : AllNe x (p :: l)) : AllNe x l := h.2
end
section
open PySem PySem.W PyProof.Rows PySem.Spec PySem.Calls PyProof.Rows.LCg PySem.SeqAt
noncomputable def WStepM (A₀ : Around) (base g₀ : Heap) (outer : List Env) (L : Addr) (J : Nat → (Str → Option Value) → Heap → List (Addr × Obj) → Prop) (Q : Flow → Shared → Prop) (s : Shared) (n : Nat) (f : Flow) (s₃ : Shared) : Prop :=
  match f with
  | .next | .cont => ∃ h' tk m₂ g' news₂ n', s₃ = { s with heap := h', toks := tk } ∧ KtsTurn (fs outer) g₀ g' ∧ Fr g' L h' m₂ ∧ Below A₀ base outer g' ∧ News g' L h' news₂ ∧ n' < n ∧ J n' m₂ g' news₂
  | .brk => Q .next s₃
  | .ret v => Q (.ret v) s₃
section
variable {prog : Program} {w : World} {A A₀ : Around} {E : Value → Shared → Prop} {Q : Flow → Shared → Prop} {s : Shared} {env : Env} {base g₀ : Heap} {outer : List Env} {L : Addr}
noncomputable def While_M_P (prog : Program) (w : World) (A : Around) (A₀ : Around) (E : Value → Shared → Prop) (Q : Flow → Shared → Prop) (s : Shared) (env : Env) (base : Heap) (g₀ : Heap) (outer : List Env) (L : Addr) (test : Expr) (body : List Stmt) (pos : Pos) (m : Str → Option Value) (news : List (Addr × Obj)) (n₀ : Nat) : Prop := ∀ (J : Nat → (Str → Option Value) → Heap → List (Addr × Obj) → Prop) (F : Fr g₀ L s.heap m) (Bl : Below A₀ base outer g₀) (N : News g₀ L s.heap news) (hJ : J n₀ m g₀ news) (turn : ∀ n m₁ g news₁ h₁ tk₁, KtsTurn (fs outer) g₀ g → Fr g L h₁ m₁ → Below A₀ base outer g → News g L h₁ news₁ → J n m₁ g news₁ → wpAny (model prog w) A (isTrue test env (eval test env)) (fun b s₂ => if b = true then wpAny (model prog w) A (execs body env) (WStepM A₀ base g₀ outer L J Q s n) E s₂ else Q .next s₂) E { s with heap := h₁, toks := tk₁ }) (hE : PassesOwn (model prog w) A env E), wpAny (model prog w) A (exec (.While test body [] pos) env) Q E s
noncomputable def While_M_q (x : (((((Program × World) × Around) × (Around × (Value → Shared → Prop))) × (((Flow → Shared → Prop) × Shared) × (Env × Heap))) × ((((Heap × List Env) × Addr) × (Expr × List Stmt)) × ((Pos × (Str → Option Value)) × (List (Addr × Obj) × Nat))))) : Prop := While_M_P x.1.1.1.1.1 x.1.1.1.1.2 x.1.1.1.2 x.1.1.2.1 x.1.1.2.2 x.1.2.1.1 x.1.2.1.2 x.1.2.2.1 x.1.2.2.2 x.2.1.1.1.1 x.2.1.1.1.2 x.2.1.1.2 x.2.1.2.1 x.2.1.2.2 x.2.2.1.1 x.2.2.1.2 x.2.2.2.1 x.2.2.2.2
noncomputable def While_M_c := @Classical.epsilon _ ⟨(((((PySem.Challenge.pw_sa0211_01, aWorld 1), {}), ({}, fun _ _ => True)), ((fun _ _ => True, {}), (default, {}))), (((({}, []), 0), (default, default)), ((default, fun _ => none), ([], 0))))⟩ fun x => ¬ While_M_q x
theorem While_M_k : While_M_q While_M_c := by
  refine (?fq : ∀ (prog : Program) (w : World) (A : Around) (A₀ : Around) (E : Value → Shared → Prop) (Q : Flow → Shared → Prop) (s : Shared) (env : Env) (base : Heap) (g₀ : Heap) (outer : List Env) (L : Addr) (test : Expr) (body : List Stmt) (pos : Pos) (m : Str → Option Value) (news : List (Addr × Obj)) (n₀ : Nat), While_M_P prog w A A₀ E Q s env base g₀ outer L test body pos m news n₀) _ _ _ _ _ _ _ _ _ _ _ _ _ _ _ _ _ _ 
  intro prog w A A₀ E Q s env base g₀ outer L test body pos m news n₀ J F Bl N hJ turn hE
  refine wpAny_While (codeAny_whileLoop (fun n s' => ∃ h₁ tk₁ m₁ g news₁, s' = { s with heap := h₁, toks := tk₁ } ∧ KtsTurn (fs outer) g₀ g ∧ Fr g L h₁ m₁ ∧ Below A₀ base outer g ∧ News g L h₁ news₁ ∧ J n m₁ g news₁) ?_ n₀ ⟨s.heap, s.toks, m, g₀, news, rfl, KtsTurn.refl, F, Bl, N, hJ⟩)
  rintro n s' ⟨h₁, tk₁, m₁, g, news₁, rfl, T₁, F₁, B₁, N₁, J₁⟩
  refine wpAny_mono (turn n m₁ g news₁ h₁ tk₁ T₁ F₁ B₁ N₁ J₁) (fun b s₂ h₂ => ?_) hE
  cases b with
  | false =>
    simp only [Bool.false_eq_true, if_false] at h₂ ⊢
    exact wpAny_execs_nil h₂
  | true =>
    simp only [if_true] at h₂ ⊢
    refine wpAny_mono h₂ (fun f s₃ h₃ => ?_) hE
    cases f with
    | next =>
      obtain ⟨h', tk, m₂, g', news₂, n', e, T₂, F₂, B₂, N₂, lt, J₂⟩ := h₃
      exact ⟨n', lt, h', tk, m₂, g', news₂, e, T₂, F₂, B₂, N₂, J₂⟩
    | cont =>
      obtain ⟨h', tk, m₂, g', news₂, n', e, T₂, F₂, B₂, N₂, lt, J₂⟩ := h₃
      exact ⟨n', lt, h', tk, m₂, g', news₂, e, T₂, F₂, B₂, N₂, J₂⟩
    | brk => exact h₃
    | ret v => exact h₃
theorem While_M  {test : Expr} {body : List Stmt} {pos : Pos} {m : Str → Option Value} {news : List (Addr × Obj)} (J : Nat → (Str → Option Value) → Heap → List (Addr × Obj) → Prop) {n₀ : Nat}
    (F : Fr g₀ L s.heap m) (Bl : Below A₀ base outer g₀) (N : News g₀ L s.heap news) (hJ : J n₀ m g₀ news)
    (turn : ∀ n m₁ g news₁ h₁ tk₁, KtsTurn (fs outer) g₀ g → Fr g L h₁ m₁ → Below A₀ base outer g → News g L h₁ news₁ → J n m₁ g news₁ →
      wpAny (model prog w) A (isTrue test env (eval test env)) (fun b s₂ =>
        if b = true then wpAny (model prog w) A (execs body env) (WStepM A₀ base g₀ outer L J Q s n) E s₂ else Q .next s₂) E { s with heap := h₁, toks := tk₁ })
    (hE : PassesOwn (model prog w) A env E := by passes_own) :
    wpAny (model prog w) A (exec (.While test body [] pos) env) Q E s :=
  hk_ax (P := While_M_q) _ While_M_k (((((prog, w), A), (A₀, E)), ((Q, s), (env, base))), ((((g₀, outer), L), (test, body)), ((pos, m), (news, n₀)))) J F Bl N hJ turn hE
end
noncomputable def ReadV (xs : List Value) (p : Int) (v : Value) (p' : Int) : Prop :=
  (p < (xs.length : Int) ∧ xs[p.toNat]? = some v ∧ p' = p + 1) ∨ (p = (xs.length : Int) ∧ (∃ t, v = .str (PySem.Str.ofString "end") t) ∧ p' = p + 1) ∨ ((xs.length : Int) < p ∧ (∃ t, v = .int 17 t) ∧ p' = p)
section
variable {prog : Program} {w : World} {A : Around} {s : Shared} {base : Heap} {outer : List Env} {mean : ExcName → Option Value} {mg mb : Str → Option Value}
  {R : Result → Shared → Prop} {u du f df rc nb : Addr} {ui : UI} {fi : FI} {p : Int} {tp : Tok} {xs : List Value} {rn : Nat}
theorem deed_readS (S : St w mean mg mb base) (D : Dist [(u, instObj 142 du), (du, unitD w ui f (.int p tp)), (f, instObj 100 df), (df, fileD w fi "SEQUENTIAL" rc nb), (rc, listOf xs.toArray rn)]) (hz : xs.length ≤ 20) (h0 : 0 ≤ p) :
    DeedK prog w base [(u, instObj 142 du), (du, unitD w ui f (.int p tp)), (f, instObj 100 df), (df, fileD w fi "SEQUENTIAL" rc nb), (rc, listOf xs.toArray rn)] 6 230 [.ref u] (fun new v => ∃ p' tz, new = [(du, unitD w ui f (.int p' tz))] ∧ ReadV xs p v p') := by
  intro A' outer' s' R' B Rm H kk kx
  have hm : ∀ p' tz, ∀ q ∈ [(du, unitD w ui f (.int p' tz))], ∃ o, (q.1, o) ∈ [(u, instObj 142 du), (du, unitD w ui f (.int p tp)), (f, instObj 100 df), (df, fileD w fi "SEQUENTIAL" rc nb), (rc, listOf xs.toArray rn)] := fun p' tz q hq => by rw [List.mem_singleton.mp hq]; exact ⟨_, .tail _ (.head _)⟩
  by_cases h1 : p < (xs.length : Int)
  · have hl : p.toNat < xs.length := by omega
    have hv : xs[p.toNat]? = some xs[p.toNat] := List.getElem?_eq_getElem hl
    refine readS_ok S B (Rm.less (by decide)) H D hz h0 h1 hv fun h' tk' tz x1 x2 => kk h' tk' _ [(du, unitD w ui f (.int (p + 1) tz))] x1 (fun q hq => ?_) (hm _ _) ⟨_, _, rfl, .inl ⟨h1, hv, rfl⟩⟩
    rw [List.mem_singleton.mp hq]; exact x2
  · by_cases h2 : (xs.length : Int) = p
    · refine readS_end S B Rm H D hz h2 fun h' tk' e tz x1 x2 x3 => kx h' tk' e 70 (-1) [(du, unitD w ui f (.int (p + 1) tz))] x1 (fun q hq => ?_) (hm _ _) x3 (.inr ⟨rfl, fun t => ⟨_, _, rfl, .inr (.inl ⟨h2.symm, ⟨t, rfl⟩, rfl⟩)⟩⟩)
      rw [List.mem_singleton.mp hq]; exact x2
    · refine readS_far S B (Rm.less (by decide)) H D hz (by omega) fun h' tk' e x1 x2 => kx h' tk' e 51 17 [(du, unitD w ui f (.int p tp))] (x1.mono (fun _ q => q) fun _ q => nomatch q) (fun q hq => ?_) (hm _ _) x2 (.inl ⟨rfl, fun t => ⟨_, _, rfl, .inr (.inr ⟨by omega, ⟨t, rfl⟩, rfl⟩)⟩⟩)
      rw [List.mem_singleton.mp hq]
      have z := H (du, unitD w ui f (.int p tp)) (.tail _ (.head _))
      exact x1.at z.1 List.not_mem_nil z.2.2
theorem deed_writeS {v : Value} (S : St w mean mg mb base) (D : Dist [(u, instObj 142 du), (du, unitD w ui f (.int p tp)), (f, instObj 100 df), (df, fileD w fi "SEQUENTIAL" rc nb), (rc, listOf xs.toArray rn)]) (hz : xs.length ≤ 20) (h0 : 0 ≤ p) (hp : (xs.length : Int) < p) :
    DeedK prog w base [(u, instObj 142 du), (du, unitD w ui f (.int p tp)), (f, instObj 100 df), (df, fileD w fi "SEQUENTIAL" rc nb), (rc, listOf xs.toArray rn)] 6 244 [.ref u, v] (fun new v => new = [] ∧ ∃ t, v = .int 17 t) := by
  intro A' outer' s' R' B Rm H kk kx
  exact writeS_far S B Rm H D hz hp fun h' tk' e x1 x2 => kx h' tk' e 51 17 [] x1 (fun q hq => nomatch hq) (fun q hq => nomatch hq) x2 (.inl ⟨rfl, fun t => ⟨rfl, t, rfl⟩⟩)
theorem deed_writeX {k : Int} {tk : Tok} {v : Value} (S : St w mean mg mb base) :
    DeedK prog w base [(u, instObj 142 du), (du, unitD w ui f (.int p tp)), (f, instObj 100 df), (df, fileD w fi "SEQUENTIAL" rc nb)] 7 286 [.ref u, .int k tk, v] (fun new v => new = [] ∧ ∃ t, v = .int 16 t) := by
  intro A' outer' s' R' B Rm H kk kx
  exact writeD_acc S B Rm H fun h' tk' e x1 x2 => kx h' tk' e 51 16 [] x1 (fun q hq => nomatch hq) (fun q hq => nomatch hq) x2 (.inl ⟨rfl, fun t => ⟨rfl, t, rfl⟩⟩)
end
section
variable {prog : Program} {w : World} {A : Around} {s : Shared} {base g : Heap} {outer : List Env} {mean : ExcName → Option Value} {mg mb : Str → Option Value}
  {L a : Addr} {m : Str → Option Value} {news : List (Addr × Obj)} {env : Env} {Q E : Value → Shared → Prop} {u du f df rc nb : Addr} {ui : UI} {fi : FI} {p : Int} {tp : Tok} {xs : List Value} {rn : Nat} {pa : Addr} {pn : Nat} {g₀ : Heap} {gg g1 g2 : Obj → List (Addr × Obj)}
theorem heardRS_K {hpS : Heap} {gnS : Array GenState} {drS : Drawn} {tkS : Nat} {osS : OsState} (S : St w mean mg mb base) (B : Below A base outer g) (F : Fr g L hpS m) (N : News g L hpS news) (Rm : Room A 9) (T0 : KtsTurn (fs outer) g₀ g)
    (hp0 : (pa, listOf #[] pn) ∈ news) (h1 : ∀ q ∈ [(u, instObj 142 du), (du, unitD w ui f (.int p tp)), (f, instObj 100 df), (df, fileD w fi "SEQUENTIAL" rc nb), (rc, listOf xs.toArray rn)], q ∈ news) (D : Dist [(u, instObj 142 du), (du, unitD w ui f (.int p tp)), (f, instObj 100 df), (df, fileD w fi "SEQUENTIAL" rc nb), (rc, listOf xs.toArray rn)]) (hz : xs.length ≤ 20) (h0 : 0 ≤ p) (Dp : AllNe pa [(u, instObj 142 du), (du, unitD w ui f (.int p tp)), (f, instObj 100 df), (df, fileD w fi "SEQUENTIAL" rc nb), (rc, listOf xs.toArray rn)]) (U : UpdF du (unitD w ui f (.int p tp)) news gg)
    (kk : Halt (∀ h' tk v g' p' tz, KtsTurn (fs outer) g₀ g' → Fr g' L h' m → Below A base outer g' → News g' L h' (gg (unitD w ui f (.int p' tz))) → ReadV xs p v p' → Q v ⟨h', gnS, drS, tk, osS⟩)) (hf : env.frame = some L := by rfl) (hk : env.scope.kind = .function := by rfl) :
    wpAny (model prog w) (A.deeper env) (call (.ref 306) [.ref 230, .ref u, .ref pa]) Q E ⟨hpS, gnS, drS, tkS, osS⟩ := by
  refine wpAny_call (heard230 (td := 0) (pn := pn) S (pushX B F hf hk) (Rm.deeper (by decide)) (has_ofX hf B N (List.forall_mem_cons.mpr ⟨hp0, h1⟩)) Dp (deed_readS S D hz h0) fun h' tk v new x1 x2 x3 x4 => ?_)
  rw [fsX hf] at x1
  obtain ⟨p', tz, rfl, hv⟩ := x4
  obtain ⟨g', T', F', B', N'⟩ := useB1 x1 B F N U (x2 _ (.head _))
  exact kk h' tk v g' p' tz (T0.trans T') F' B' N' hv
theorem heardWS_K {hpS : Heap} {gnS : Array GenState} {drS : Drawn} {tkS : Nat} {osS : OsState} {v : Value} (S : St w mean mg mb base) (B : Below A base outer g) (F : Fr g L hpS m) (N : News g L hpS news) (Rm : Room A 9) (T0 : KtsTurn (fs outer) g₀ g)
    (hp0 : (pa, listOf #[v] pn) ∈ news) (h1 : ∀ q ∈ [(u, instObj 142 du), (du, unitD w ui f (.int p tp)), (f, instObj 100 df), (df, fileD w fi "SEQUENTIAL" rc nb), (rc, listOf xs.toArray rn)], q ∈ news) (D : Dist [(u, instObj 142 du), (du, unitD w ui f (.int p tp)), (f, instObj 100 df), (df, fileD w fi "SEQUENTIAL" rc nb), (rc, listOf xs.toArray rn)]) (hz : xs.length ≤ 20) (h0 : 0 ≤ p) (hp : (xs.length : Int) < p) (Dp : AllNe pa [(u, instObj 142 du), (du, unitD w ui f (.int p tp)), (f, instObj 100 df), (df, fileD w fi "SEQUENTIAL" rc nb), (rc, listOf xs.toArray rn)])
    (kk : Halt (∀ h' tk tz g', KtsTurn (fs outer) g₀ g' → Fr g' L h' m → Below A base outer g' → News g' L h' news → Q (.int 17 tz) ⟨h', gnS, drS, tk, osS⟩)) (hf : env.frame = some L := by rfl) (hk : env.scope.kind = .function := by rfl) :
    wpAny (model prog w) (A.deeper env) (call (.ref 306) [.ref 244, .ref u, .ref pa]) Q E ⟨hpS, gnS, drS, tkS, osS⟩ := by
  refine wpAny_call (heard244 (td := 0) (pn := pn) S (pushX B F hf hk) (Rm.deeper (by decide)) (has_ofX hf B N (List.forall_mem_cons.mpr ⟨hp0, h1⟩)) Dp (deed_writeS S D hz h0 hp) fun h' tk v' new x1 x2 x3 x4 => ?_)
  rw [fsX hf] at x1
  obtain ⟨rfl, t, rfl⟩ := x4
  obtain ⟨g', T', F', B', N'⟩ := useB0 x1 B F N
  exact kk h' tk t g' (T0.trans T') F' B' N'
theorem rewind_K {hpS : Heap} {gnS : Array GenState} {drS : Drawn} {tkS : Nat} {osS : OsState} (S : St w mean mg mb base) (B : Below A base outer g) (F : Fr g L hpS m) (N : News g L hpS news) (Rm : Room A 9) (h1 : ∀ q ∈ [(u, instObj 142 du), (du, unitD w ui f (.int p tp)), (f, instObj 100 df), (df, fileD w fi "SEQUENTIAL" rc nb)], q ∈ news) (D : Dist [(u, instObj 142 du), (du, unitD w ui f (.int p tp)), (f, instObj 100 df), (df, fileD w fi "SEQUENTIAL" rc nb)])  (U : UpdF du (unitD w ui f (.int p tp)) news gg)
    (kk : ∀ h' tk tz, Fr g L h' m → News g L h' (gg (unitD w ui f (.int 0 tz))) → Q .none ⟨h', gnS, drS, tk, osS⟩) (hf : env.frame = some L := by rfl) (hk : env.scope.kind = .function := by rfl) :
    wpAny (model prog w) (A.deeper env) (call (.ref 265) [.ref u]) Q E ⟨hpS, gnS, drS, tkS, osS⟩ := by
  refine wpAny_call (rewindS S (pushX B F hf hk) ((Rm.deeper (Nat.le_refl _)).less (by decide)) (has_ofX hf B N h1) D fun h' tk tz x1 x2 => ?_)
  obtain ⟨F', N'⟩ := use0 F N U x1 x2
  exact kk h' tk tz F' N'
theorem backspace0_K {hpS : Heap} {gnS : Array GenState} {drS : Drawn} {tkS : Nat} {osS : OsState} (S : St w mean mg mb base) (B : Below A base outer g) (F : Fr g L hpS m) (N : News g L hpS news) (Rm : Room A 9) (h1 : ∀ q ∈ [(u, instObj 142 du), (du, unitD w ui f (.int p tp)), (f, instObj 100 df), (df, fileD w fi "SEQUENTIAL" rc nb)], q ∈ news) (D : Dist [(u, instObj 142 du), (du, unitD w ui f (.int p tp)), (f, instObj 100 df), (df, fileD w fi "SEQUENTIAL" rc nb)]) (hp : p ≤ 0) 
    (kk : ∀ h' tk, Fr g L h' m → News g L h' news → Q .none ⟨h', gnS, drS, tk, osS⟩) (hf : env.frame = some L := by rfl) (hk : env.scope.kind = .function := by rfl) :
    wpAny (model prog w) (A.deeper env) (call (.ref 258) [.ref u]) Q E ⟨hpS, gnS, drS, tkS, osS⟩ := by
  refine wpAny_call (back0S (p := p) (tp := tp) (f := f) (df := df) (rc := rc) (nb := nb) (ui := ui) (fi := fi) (du := du) S (pushX B F hf hk) ((Rm.deeper (Nat.le_refl _)).less (by decide)) (has_ofX hf B N h1) D hp fun h' tk x1 => ?_)
  obtain ⟨F', N'⟩ := use00 F N x1
  exact kk h' tk F' N'
theorem backspace_K {hpS : Heap} {gnS : Array GenState} {drS : Drawn} {tkS : Nat} {osS : OsState} (S : St w mean mg mb base) (B : Below A base outer g) (F : Fr g L hpS m) (N : News g L hpS news) (Rm : Room A 9) (h1 : ∀ q ∈ [(u, instObj 142 du), (du, unitD w ui f (.int p tp)), (f, instObj 100 df), (df, fileD w fi "SEQUENTIAL" rc nb)], q ∈ news) (D : Dist [(u, instObj 142 du), (du, unitD w ui f (.int p tp)), (f, instObj 100 df), (df, fileD w fi "SEQUENTIAL" rc nb)]) (hp : 0 < p) (U : UpdF du (unitD w ui f (.int p tp)) news gg)
    (kk : ∀ h' tk tz, Fr g L h' m → News g L h' (gg (unitD w ui f (.int (p - 1) tz))) → Q .none ⟨h', gnS, drS, tk, osS⟩) (hf : env.frame = some L := by rfl) (hk : env.scope.kind = .function := by rfl) :
    wpAny (model prog w) (A.deeper env) (call (.ref 258) [.ref u]) Q E ⟨hpS, gnS, drS, tkS, osS⟩ := by
  refine wpAny_call (backS S (pushX B F hf hk) ((Rm.deeper (Nat.le_refl _)).less (by decide)) (has_ofX hf B N h1) D hp fun h' tk tz x1 x2 => ?_)
  obtain ⟨F', N'⟩ := use0 F N U x1 x2
  exact kk h' tk tz F' N'
theorem readR_K {hpS : Heap} {gnS : Array GenState} {drS : Drawn} {tkS : Nat} {osS : OsState} (S : St w mean mg mb base) (B : Below A base outer g) (F : Fr g L hpS m) (N : News g L hpS news) (Rm : Room A 9) (h1 : ∀ q ∈ [(u, instObj 142 du), (du, unitD w ui f (.int p tp)), (f, instObj 100 df), (df, fileD w fi "SEQUENTIAL" rc nb), (rc, listOf xs.toArray rn)], q ∈ news) (D : Dist [(u, instObj 142 du), (du, unitD w ui f (.int p tp)), (f, instObj 100 df), (df, fileD w fi "SEQUENTIAL" rc nb), (rc, listOf xs.toArray rn)]) (hz : xs.length ≤ 20) (h0 : 0 ≤ p) (hp : p < (xs.length : Int)) {v : Value} (hv : xs[p.toNat]? = some v) (U : UpdF du (unitD w ui f (.int p tp)) news gg)
    (kk : ∀ h' tk tz, Fr g L h' m → News g L h' (gg (unitD w ui f (.int (p + 1) tz))) → Q v ⟨h', gnS, drS, tk, osS⟩) (hf : env.frame = some L := by rfl) (hk : env.scope.kind = .function := by rfl) :
    wpAny (model prog w) (A.deeper env) (call (.ref 230) [.ref u]) Q E ⟨hpS, gnS, drS, tkS, osS⟩ := by
  refine wpAny_call (readS_ok S (pushX B F hf hk) ((Rm.deeper (Nat.le_refl _)).less (by decide)) (has_ofX hf B N h1) D hz h0 hp hv fun h' tk tz x1 x2 => ?_)
  obtain ⟨F', N'⟩ := use0 F N U x1 x2
  exact kk h' tk tz F' N'
theorem writeR_K {hpS : Heap} {gnS : Array GenState} {drS : Drawn} {tkS : Nat} {osS : OsState} (S : St w mean mg mb base) (B : Below A base outer g) (F : Fr g L hpS m) (N : News g L hpS news) (Rm : Room A 9) (h1 : ∀ q ∈ [(u, instObj 142 du), (du, unitD w ui f (.int p tp)), (f, instObj 100 df), (df, fileD w fi "SEQUENTIAL" rc nb), (rc, listOf xs.toArray rn)], q ∈ news) (D : Dist [(u, instObj 142 du), (du, unitD w ui f (.int p tp)), (f, instObj 100 df), (df, fileD w fi "SEQUENTIAL" rc nb), (rc, listOf xs.toArray rn)]) {v : Value} (hz : xs.length ≤ 20) (h0 : 0 ≤ p) (hp : p ≤ (xs.length : Int)) {G2 : Tok → Obj → List (Addr × Obj)} (U1 : UpdF du (unitD w ui f (.int p tp)) news g1) (U2 : ∀ tz, UpdF rc (listOf xs.toArray rn) (g1 (unitD w ui f (.int (p + 1) tz))) (G2 tz)) (hdr : du ≠ rc)
    (kk : ∀ h' tk cap tz, Fr g L h' m → News g L h' (G2 tz (listOf (xs.take p.toNat ++ [v]).toArray cap)) → Q .none ⟨h', gnS, drS, tk, osS⟩) (hf : env.frame = some L := by rfl) (hk : env.scope.kind = .function := by rfl) :
    wpAny (model prog w) (A.deeper env) (call (.ref 244) [.ref u, v]) Q E ⟨hpS, gnS, drS, tkS, osS⟩ := by
  refine wpAny_call (writeS_ok S (pushX B F hf hk) ((Rm.deeper (Nat.le_refl _)).less (by decide)) (has_ofX hf B N h1) D hz h0 hp fun h' tk cap tz x1 x2 x3 => ?_)
  obtain ⟨F', N'⟩ := use02 F N U1 (U2 tz) hdr x1 x2 x3
  exact kk h' tk cap tz F' N'
theorem endR_K {hpS : Heap} {gnS : Array GenState} {drS : Drawn} {tkS : Nat} {osS : OsState} (S : St w mean mg mb base) (B : Below A base outer g) (F : Fr g L hpS m) (N : News g L hpS news) (Rm : Room A 9) (h1 : ∀ q ∈ [(u, instObj 142 du), (du, unitD w ui f (.int p tp)), (f, instObj 100 df), (df, fileD w fi "SEQUENTIAL" rc nb), (rc, listOf xs.toArray rn)], q ∈ news) (D : Dist [(u, instObj 142 du), (du, unitD w ui f (.int p tp)), (f, instObj 100 df), (df, fileD w fi "SEQUENTIAL" rc nb), (rc, listOf xs.toArray rn)]) (hz : xs.length ≤ 20) (h0 : 0 ≤ p) (hp : p ≤ (xs.length : Int)) {G2 : Tok → Obj → List (Addr × Obj)} (U1 : UpdF du (unitD w ui f (.int p tp)) news g1) (U2 : ∀ tz, UpdF rc (listOf xs.toArray rn) (g1 (unitD w ui f (.int (p + 1) tz))) (G2 tz)) (hdr : du ≠ rc)
    (kk : ∀ h' tk cap tz, Fr g L h' m → News g L h' (G2 tz (listOf (xs.take p.toNat).toArray cap)) → Q .none ⟨h', gnS, drS, tk, osS⟩) (hf : env.frame = some L := by rfl) (hk : env.scope.kind = .function := by rfl) :
    wpAny (model prog w) (A.deeper env) (call (.ref 251) [.ref u]) Q E ⟨hpS, gnS, drS, tkS, osS⟩ := by
  refine wpAny_call (endS_ok S (pushX B F hf hk) ((Rm.deeper (Nat.le_refl _)).less (by decide)) (has_ofX hf B N h1) D hz h0 hp fun h' tk cap tz x1 x2 x3 => ?_)
  obtain ⟨F', N'⟩ := use02 F N U1 (U2 tz) hdr x1 x2 x3
  exact kk h' tk cap tz F' N'
end
end
section
open PySem PySem.W PyProof.Rows PySem.Spec PySem.Calls PyProof.Rows.LCg PySem.SeqAt
inductive RecDs (rs : List (Addr × Obj)) : List Value → List PyData → Prop
  | nil : RecDs rs [] []
  | cons {v d vs ds} : RecD rs v d → PyData.eqv d (.str (PySem.Str.ofString "end")) = false → d.depth ≤ 8 → RecDs rs vs ds → RecDs rs (v :: vs) (d :: ds)
theorem RecDs.get {rs : List (Addr × Obj)} : ∀ {vs : List Value} {ds : List PyData}, RecDs rs vs ds → ∀ {i : Nat} {v : Value}, vs[i]? = some v → ∃ d, RecD rs v d ∧ PyData.eqv d (.str (PySem.Str.ofString "end")) = false
  | _, _, .nil, i, v, h => by simp at h
  | _, _, .cons a b _ r, 0, v, h => by simp at h; subst h; exact ⟨_, a, b⟩
  | _, _, .cons a b _ r, i + 1, v, h => by simp at h; exact r.get h
theorem recEnd {rs : List (Addr × Obj)} {t : Tok} : RecD rs (.str (PySem.Str.ofString "end") t) (.str (PySem.Str.ofString "end")) := ⟨by decide +kernel, fun _ _ => ⟨_, .str _ t⟩⟩
theorem allLt_off {d : Addr} : ∀ {l : List (Addr × Obj)}, AllLt d l → OffR d l
  | [], _ => OffR.nil
  | _ :: _, ⟨h, r⟩ => OffR.cons (Nat.ne_of_lt h) (allLt_off r)
theorem nameHead {g h : Heap} {L a : Addr} {o : Obj} {r : List (Addr × Obj)} (_ : News g L h ((a, o) :: r)) : ∃ D, D = a := ⟨a, rfl⟩
theorem push_take {xs : List Value} {k : Nat} {v : Value} (h : xs[k]? = some v) : (xs.take k).toArray.push v = (xs.take (k + 1)).toArray := by
  rw [List.push_toArray, List.take_add_one, h]; rfl
theorem line_M24_1 : True := by
  k_with_none
  w_top off
  k_with "my:k_mem" => (first | exact m0_ | exact m1_ | exact m2_ | exact m3_ | exact m4_ | exact m5_ | exact m6_ | exact m7_ | (refine m8s_ ?_; k_mem))
  k_with "my:k_ne" => (((try dsimp only); first
  | exact AllNe.mem (by assumption) (_, _) (by k_mem)
  | exact Ne.symm (AllNe.mem (by assumption) (_, _) (by k_mem))
  | assumption
  | exact Ne.symm (by assumption)
  | exact Nat.ne_of_lt (lt_at (by assumption) (by k_mem))
  | exact Nat.ne_of_gt (lt_at (by assumption) (by k_mem))
  | (refine neN ?_; omega)))
  k_with "my_enter" => ((
  (case ho => k_is)
  (case hcd => k_is)
  (case hbind => exact BindsTo.of_eq rfl)
  (case hloc => exact locs rfl)
  (case hco => exact rfl)
  (case hgen => exact rfl)
  (case hk => exact rfl)
  (case hcell => decide)))
  k_with "my_dist" => (((simp only [Dist, AllNe, and_true]); (repeat' (refine And.intro ?_ ?_)); all_goals k_ne))
  k_with "my_bs" => (first | exact List.forall_mem_nil _ | (refine List.forall_mem_cons.mpr ⟨⟨⟨_, by k_mem⟩, ⟨by k_ne, by k_ne⟩⟩, ?_⟩; walk_at "my_bs"))
  k_with "my_bs0" => (first | exact List.forall_mem_nil _ | (refine List.forall_mem_cons.mpr ⟨⟨_, by k_mem⟩, ?_⟩; walk_at "my_bs0"))
  k_with "my_ro" => (first | exact List.forall_mem_nil _ | (refine List.forall_mem_cons.mpr ⟨?aZ, ?bZ⟩; (case aZ => first | exact fun _ => News.get (by k_asm) (by k_mem) | exact fun hn => absurd (by simp) hn); (case bZ => walk_at "my_ro")))
  k_with "exec Raise some none" => ((k_here; (with_reducible show wpAny _ _ (exec (Stmt.Raise (some (Expr.Call (Expr.Name (PySem.Str.ofString "IoFault") _) _ _ _)) none _) _) _ _ _); k_dflt (refine' raise_K (C := 51) ?XZ ?KZ ?bZ ?tZ ?hZ ?_; (case XZ => k_asm); (case KZ => k_is); (case bZ => rfl); (case tZ => rfl); (case hZ => first | exact rfl | exact Room.hand (by assumption)); k_whole)))
  k_with "exec Raise some none" => ((k_here; (with_reducible show wpAny _ _ (exec (Stmt.Raise (some (Expr.Call (Expr.Name (PySem.Str.ofString "EndFault") _) _ _ _)) none _) _) _ _ _); k_dflt (refine' raise_K (C := 70) ?XZ ?KZ ?bZ ?tZ ?hZ ?_; (case XZ => k_asm); (case KZ => k_is); (case bZ => rfl); (case tZ => rfl); (case hZ => first | exact rfl | exact Room.hand (by assumption)); k_whole)))
  k_with "call ref" => ((k_here; (with_reducible show wpAny _ _ (PySem.call (Value.ref 51) [_, _]) _ _ _); k_dflt (refine' mk51_K ?SZ ?BZ ?FZ ?NZ ?RZ ?_; (case SZ => assumption); (case BZ => assumption); (case FZ => k_asm); (case NZ => k_asm); (case RZ => exact Room.less (by assumption) (by decide)); k_whole); intro h' tk' e' t' d' tx' ty' F' N' l1 l2 l3; (try k_sweep)))
  k_with "call ref" => ((k_here; (with_reducible show wpAny _ _ (PySem.call (Value.ref 70) [_]) _ _ _); k_dflt (refine' mk70_K ?SZ ?BZ ?FZ ?NZ ?RZ ?_; (case SZ => assumption); (case BZ => assumption); (case FZ => k_asm); (case NZ => k_asm); (case RZ => exact Room.less (by assumption) (by decide)); k_whole); intro h' tk' e' t' d' tx' ty' tz' F' N' l1 l2 l3; (try k_sweep)))
  k_with "RaiseMade" => ((k_dflt (refine' raiseMade_ ?XZ ?hZ ?_; (case XZ => k_in); (case hZ => exact News.get (by k_asm) (by k_mem)))))
  k_with "my_enterC" => ((
  (case ho => k_is)
  (case hcd => k_is)
  (case hbind => exact BindsTo.of_eq rfl)
  (case hkind => exact rfl)
  (case hnd => decide +kernel)
  (case hco => exact rfl)
  (case hgen => exact rfl)
  (case hk => exact rfl)))
  k_with "my:k_all" => (exact OffR.all (by assumption))
  k_with "my_sub" => (first | exact List.forall_mem_nil _ | (refine List.forall_mem_cons.mpr ⟨?aZ, ?bZ⟩; (case aZ => k_mem); (case bZ => walk_at "my_sub")) | exact fun _ hq => by (repeat (first | exact hq | refine List.Mem.tail _ ?_)))
  k_with "my_mems" => (first | exact List.forall_mem_nil _ | (refine List.forall_mem_cons.mpr ⟨?aZ, ?bZ⟩; (case aZ => k_mem); (case bZ => walk_at "my_mems")))
  k_with "my_allne" => (((simp only [AllNe, and_true]); (repeat' (refine And.intro ?_ ?_)); all_goals k_ne))
  k_with "my_ro" => (first | exact List.forall_mem_nil _ | (refine List.forall_mem_cons.mpr ⟨?aZ, ?bZ⟩; (case aZ => first | exact fun _ => News.get (by k_asm) (by k_mem) | exact fun hn => absurd (by simp) hn); (case bZ => walk_at "my_ro")) | exact fun _ hq _ => News.get (by k_asm) (by (repeat (first | exact hq | refine List.Mem.tail _ ?_))))
  k_with "my_bsne" => (first | exact List.forall_mem_nil _ | (refine List.forall_mem_cons.mpr ⟨?aZ, ?bZ⟩; (case aZ => k_ne); (case bZ => walk_at "my_bsne")) | exact OffR.all (by assumption))
  k_with "eval ListComp" => (refine halt ?_)
  k_with "exec While Compare" => (refine halt ?_)
  k_with "exec For" => (refine halt ?_)
  k_with "exec For Name Name cons nil" => (refine halt ?_)
  k_with "exec For Name Call cons nil" => (refine halt ?_)
  k_with "call ref" => ((k_here; (with_reducible show wpAny _ _ (PySem.call (Value.ref 265) [Value.ref _]) _ _ _); k_dflt (refine' rewind_K ?SZ ?BZ ?FZ ?NZ ?RZ ?h1Z ?DZ ?UZ ?_; (case SZ => assumption); (case BZ => assumption); (case FZ => k_asm); (case NZ => k_asm); (case RZ => exact Room.less (by assumption) (by decide)); (case h1Z => walk_at "my_mems"); (case DZ => walk_at "my_dist"); (case UZ => k_updF)); intro h' tk' tz' F' N'; (try dsimp only at N'); (try k_sweep)))
  k_with "call ref" => ((k_here; (with_reducible show wpAny _ _ (PySem.call (Value.ref 258) [Value.ref _]) _ _ _); k_dflt (refine' backspace0_K ?SZ ?BZ ?FZ ?NZ ?RZ ?h1Z ?DZ ?hpZ ?_; (case SZ => assumption); (case BZ => assumption); (case FZ => k_asm); (case NZ => k_asm); (case RZ => exact Room.less (by assumption) (by decide)); (case h1Z => walk_at "my_mems"); (case DZ => walk_at "my_dist"); (case hpZ => omega)); intro h' tk' F' N'; (try dsimp only at N'); (try k_sweep)))
  k_with "call ref" => ((k_here; (with_reducible show wpAny _ _ (PySem.call (Value.ref 258) [Value.ref _]) _ _ _); k_dflt (refine' backspace_K ?SZ ?BZ ?FZ ?NZ ?RZ ?h1Z ?DZ ?hpZ ?UZ ?_; (case SZ => assumption); (case BZ => assumption); (case FZ => k_asm); (case NZ => k_asm); (case RZ => exact Room.less (by assumption) (by decide)); (case h1Z => walk_at "my_mems"); (case DZ => walk_at "my_dist"); (case hpZ => omega); (case UZ => k_updF)); intro h' tk' tz' F' N'; (try dsimp only at N'); (try k_sweep)))
  k_with "call ref" => ((k_here; (with_reducible show wpAny _ _ (PySem.call (Value.ref 230) [Value.ref _]) _ _ _); k_dflt (refine' readR_K ?SZ ?BZ ?FZ ?NZ ?RZ ?h1Z ?DZ ?hzZ ?h0Z ?hpZ ?hvZ ?UZ ?_; (case SZ => assumption); (case BZ => assumption); (case FZ => k_asm); (case NZ => k_asm); (case RZ => exact Room.less (by assumption) (by decide)); (case h1Z => walk_at "my_mems"); (case DZ => walk_at "my_dist"); (case hzZ => first | assumption | omega); (case h0Z => omega); (case hpZ => omega); (case hvZ => assumption); (case UZ => k_updF)); intro h' tk' tz' F' N'; (try dsimp only at N'); (try k_sweep)))
  k_with "call ref" => ((k_here; (with_reducible show wpAny _ _ (PySem.call (Value.ref 244) [Value.ref _, _]) _ _ _); k_dflt (refine' writeR_K ?SZ ?BZ ?FZ ?NZ ?RZ ?h1Z ?DZ ?hzZ ?h0Z ?hpZ ?U1Z ?U2Z ?hdrZ ?_; (case SZ => assumption); (case BZ => assumption); (case FZ => k_asm); (case NZ => k_asm); (case RZ => exact Room.less (by assumption) (by decide)); (case h1Z => walk_at "my_mems"); (case DZ => walk_at "my_dist"); (case hzZ => first | assumption | omega); (case h0Z => omega); (case hpZ => omega); (case U1Z => k_updF); (case U2Z => (intro tz8; (try dsimp only); k_updF)); (case hdrZ => k_ne)); intro h' tk' cap' tz' F' N'; (try dsimp only at N'); (try k_sweep)))
  k_with "call ref" => ((k_here; (with_reducible show wpAny _ _ (PySem.call (Value.ref 251) [Value.ref _]) _ _ _); k_dflt (refine' endR_K ?SZ ?BZ ?FZ ?NZ ?RZ ?h1Z ?DZ ?hzZ ?h0Z ?hpZ ?U1Z ?U2Z ?hdrZ ?_; (case SZ => assumption); (case BZ => assumption); (case FZ => k_asm); (case NZ => k_asm); (case RZ => exact Room.less (by assumption) (by decide)); (case h1Z => walk_at "my_mems"); (case DZ => walk_at "my_dist"); (case hzZ => first | assumption | omega); (case h0Z => omega); (case hpZ => omega); (case U1Z => k_updF); (case U2Z => (intro tz8; (try dsimp only); k_updF)); (case hdrZ => k_ne)); intro h' tk' cap' tz' F' N'; (try dsimp only at N'); (try k_sweep)))
  k_with "call ref" => ((k_here; (with_reducible show wpAny _ _ (PySem.call (Value.ref 306) [Value.ref 230, Value.ref _, Value.ref _]) _ _ _); k_dflt (refine' heardRS_K ?SZ ?BZ ?FZ ?NZ ?RZ ?T0Z ?p0Z ?h1Z ?DZ ?hzZ ?h0Z ?DpZ ?UZ ?_; (case SZ => assumption); (case BZ => assumption); (case FZ => k_asm); (case NZ => k_asm); (case RZ => exact Room.less (by assumption) (by decide)); (case T0Z => assumption); (case p0Z => k_mem); (case h1Z => walk_at "my_mems"); (case DZ => walk_at "my_dist"); (case hzZ => first | assumption | omega); (case h0Z => omega); (case DpZ => walk_at "my_allne"); (case UZ => k_updF)); skip))
  k_with "call ref" => ((k_here; (with_reducible show wpAny _ _ (PySem.call (Value.ref 306) [Value.ref 244, Value.ref _, Value.ref _]) _ _ _); k_dflt (refine' heardWS_K ?SZ ?BZ ?FZ ?NZ ?RZ ?T0Z ?p0Z ?h1Z ?DZ ?hzZ ?h0Z ?hpZ ?DpZ ?_; (case SZ => assumption); (case BZ => assumption); (case FZ => k_asm); (case NZ => k_asm); (case RZ => exact Room.less (by assumption) (by decide)); (case T0Z => assumption); (case p0Z => k_mem); (case h1Z => walk_at "my_mems"); (case DZ => walk_at "my_dist"); (case hzZ => first | assumption | omega); (case h0Z => omega); (case hpZ => omega); (case DpZ => walk_at "my_allne")); skip))
  k_with "compareOp Eq" => ((k_here; k_dflt (refine' cmpEqF ?NZ ?sZ ?aZ ?bZ ?hZ ?uZ ?_; (case NZ => k_asm); (case aZ => assumption); (case bZ => exact recEnd); (case hZ => assumption); (case uZ => assumption); (case sZ => walk_at "my_sub"))))
  trivial
section
variable {prog : Program} {w : World} {A : Around} {s : Shared} {base : Heap} {outer : List Env} {mean : ExcName → Option Value} {mg mb : Str → Option Value}
  {R : Result → Shared → Prop} {u du f df rc nb : Addr} {ui : UI} {fi : FI} {p : Int} {tp : Tok} {xs : List Value} {ds : List PyData} {rn : Nat} {rs : List (Addr × Obj)}
noncomputable def rows_s : (Rq : Program → World → Shared → Heap → List Env → (ExcName → Option Value) → (Str → Option Value) → (Str → Option Value) → (Result → Shared → Prop) → Addr → Addr → Addr → Addr → Addr → Addr → UI → FI → Int → Tok → List Value → List PyData → Nat → List (Addr × Obj) → Nat → Option (List Code) → Nat → Heap → Addr → Heap → Prop) ×' ((∀ (prog : Program) (w : World) (s : Shared) (base : Heap) (outer : List Env) (mean : ExcName → Option Value) (mg : Str → Option Value) (mb : Str → Option Value) (R : Result → Shared → Prop) (u : Addr) (du : Addr) (f : Addr) (df : Addr) (rc : Addr) (nb : Addr) (ui : UI) (fi : FI) (p : Int) (tp : Tok) (xs : List Value) (ds : List PyData) (rn : Nat) (rs : List (Addr × Obj)) (dp : Nat) (gd : Option (List Code)) (un : Nat) (g : Heap) (L' : Addr) (h₁ : Heap), Rq prog w s base outer mean mg mb R u du f df rc nb ui fi p tp xs ds rn rs dp gd un g L' h₁) → ∀ (A : Around) (prog : Program) (w : World) (s : Shared) (base : Heap) (outer : List Env) (mean : ExcName → Option Value) (mg : Str → Option Value) (mb : Str → Option Value) (R : Result → Shared → Prop) (u : Addr) (du : Addr) (f : Addr) (df : Addr) (rc : Addr) (nb : Addr) (ui : UI) (fi : FI) (p : Int) (tp : Tok) (xs : List Value) (ds : List PyData) (rn : Nat) (rs : List (Addr × Obj)) (S : St w mean mg mb base) (B : Below A base outer s.heap) (Rm : Room A 11) (H : Has base outer s.heap ((u, instObj 142 du) :: (du, unitD w ui f (.int p tp)) :: (f, instObj 100 df) :: (df, fileD w fi "SEQUENTIAL" rc nb) :: (rc, listOf xs.toArray rn) :: rs)) (D : Dist [(u, instObj 142 du), (du, unitD w ui f (.int p tp)), (f, instObj 100 df), (df, fileD w fi "SEQUENTIAL" rc nb), (rc, listOf xs.toArray rn)]) (ho : OffR u rs ∧ OffR du rs ∧ OffR f rs ∧ OffR df rs ∧ OffR rc rs) (hz : xs.length ≤ 8) (hx : RecDs rs xs ds) (kk : ∀ h' tk tz T D' cap ta, Step (fs outer) [du] s.heap h' → h'.get? du = some (unitD w ui f (.int ((xs.length : Int) + 1) tz)) → h'.get? T = some (tupO [.ref D', .int 17 ta]) → h'.get? D' = some (listOf xs.toArray cap) → s.heap.get? T = none → s.heap.get? D' = none → (@Ne Nat T D') →
      R (.ok (.ret (.ref T))) { s with heap := h', toks := tk }), codeAny (model prog w) A (.call (.ref 323) ⟨[.ref u], []⟩) R s) := by
  refine ⟨?Rq, fun kHq A prog w s base outer mean mg mb R u du f df rc nb ui fi p tp xs ds rn rs S B Rm H D ho hz hx kk => ?pfq⟩
  case pfq =>
    obtain ⟨a1, a2, a3, a4, a5⟩ := ho
    have hu : A.units + 3 + 64 < cLine := by
      have := Rm.uni
      omega
    obtain ⟨ha, dp, fr, gd, un⟩ := A
    obtain rfl : ha = none := Rm.han
    obtain rfl : fr = some outer := B.stack
    refine' enter ((u, instObj 142 du) :: (du, unitD w ui f (.int p tp)) :: (f, instObj 100 df) :: (df, fileD w fi "SEQUENTIAL" rc nb) :: (rc, listOf xs.toArray rn) :: rs) S B Rm.d H ?ho ?hcd ?hbind ?hloc ?h ?hco ?hgen ?hk ?hcell
    walk_at "my_enter"
    intro g L' h₁ F N B' X T hold hg hL
    have T0 : KtsTurn (fs outer) g g := KtsTurn.refl
    obtain ⟨D0, D1, D2, D3, D4, _⟩ := D
    revert D4; revert D3; revert D2; revert D1; revert D0; revert T0; revert hL; revert hg; revert hold; revert T; revert X; revert B'; revert N; revert F; revert hu; revert a5; revert a4; revert a3; revert a2; revert a1; revert kk; revert hx; revert hz; revert H; revert Rm; revert B; revert S
    exact kHq prog w s base outer mean mg mb R u du f df rc nb ui fi p tp xs ds rn rs dp gd un g L' h₁
noncomputable def rows_q (x : (((((Program × World) × (Shared × Heap)) × ((List Env × (ExcName → Option Value)) × ((Str → Option Value) × (Str → Option Value)))) × ((((Result → Shared → Prop) × Addr) × (Addr × Addr)) × ((Addr × Addr) × Addr))) × ((((UI × FI) × (Int × Tok)) × ((List Value × List PyData) × Nat)) × (((List (Addr × Obj) × Nat) × (Option (List Code) × Nat)) × ((Heap × Addr) × Heap))))) : Prop := rows_s.1 x.1.1.1.1.1 x.1.1.1.1.2 x.1.1.1.2.1 x.1.1.1.2.2 x.1.1.2.1.1 x.1.1.2.1.2 x.1.1.2.2.1 x.1.1.2.2.2 x.1.2.1.1.1 x.1.2.1.1.2 x.1.2.1.2.1 x.1.2.1.2.2 x.1.2.2.1.1 x.1.2.2.1.2 x.1.2.2.2 x.2.1.1.1.1 x.2.1.1.1.2 x.2.1.1.2.1 x.2.1.1.2.2 x.2.1.2.1.1 x.2.1.2.1.2 x.2.1.2.2 x.2.2.1.1.1 x.2.2.1.1.2 x.2.2.1.2.1 x.2.2.1.2.2 x.2.2.2.1.1 x.2.2.2.1.2 x.2.2.2.2
noncomputable def rows_c := @Classical.epsilon _ ⟨(((((PySem.Challenge.pw_sa0211_01, aWorld 1), ({}, {})), (([], fun _ => none), (fun _ => none, fun _ => none))), (((fun _ _ => True, 0), (0, 0)), ((0, 0), 0))), ((((⟨0, 0, 0, 0, .none, .none⟩, ⟨0, 0, 0, 0, 0, 0, 0, 0, 0, 0, Str.ofString "", Str.ofString "", 0⟩), (0, 0)), (([], []), 0)), ((([], 0), (none, 0)), (({}, 0), {}))))⟩ fun x => ¬ rows_q x
theorem rows_k : rows_q rows_c := by
  refine (?fq : ∀ (prog : Program) (w : World) (s : Shared) (base : Heap) (outer : List Env) (mean : ExcName → Option Value) (mg : Str → Option Value) (mb : Str → Option Value) (R : Result → Shared → Prop) (u : Addr) (du : Addr) (f : Addr) (df : Addr) (rc : Addr) (nb : Addr) (ui : UI) (fi : FI) (p : Int) (tp : Tok) (xs : List Value) (ds : List PyData) (rn : Nat) (rs : List (Addr × Obj)) (dp : Nat) (gd : Option (List Code)) (un : Nat) (g : Heap) (L' : Addr) (h₁ : Heap), rows_s.1 prog w s base outer mean mg mb R u du f df rc nb ui fi p tp xs ds rn rs dp gd un g L' h₁) _ _ _ _ _ _ _ _ _ _ _ _ _ _ _ _ _ _ _ _ _ _ _ _ _ _ _ _ _ 
  intro prog w s base outer mean mg mb R u du f df rc nb ui fi p tp xs ds rn rs dp gd un g L' h₁ S B Rm H hz hx kk a1 a2 a3 a4 a5 hu F N B' X T hold hg hL T0 D0 D1 D2 D3 D4
  dsimp only
  try k_fold
  k_steps
  unfold Halt
  (rename (_ < _) ∧ _ => hl)
  (rename Fr _ _ _ _ => F1)
  (rename News _ _ _ _ => N1)
  obtain ⟨q1, q2, q3, q4, q5, hlt⟩ := hl
  obtain ⟨D0, hD0⟩ := nameHead N1
  subst hD0
  have oD := allLt_off hlt
  have hDL : L' ≠ D0 := fun e => (N1 _ (.head _)).2.1 e.symm
  clear hlt
  refine While_M (fun n m₁ gq nw => ∃ k cap tz, n = xs.length + 1 - k ∧ k ≤ xs.length ∧ nw = (D0, listOf (xs.take k).toArray cap) :: (u, instObj 142 du) :: (du, unitD w ui f (.int (k : Int) tz)) :: (f, instObj 100 df) :: (df, fileD w fi "SEQUENTIAL" rc nb) :: (rc, listOf xs.toArray rn) :: rs ∧
    (m₁ "unit" = some (.ref u) ∧ m₁ "rows" = some (.ref D0))) (n₀ := xs.length + 1) F1 B' N1 ⟨0, _, _, rfl, Nat.zero_le _, rfl, rfl, rfl⟩ ?_
  clear F1 N1
  rintro n m₁ g2 nw h₁ tk₁ T2 F2 B2 N2 ⟨k, cap, tz, rfl, hk, rfl, m1, m2⟩
  have hm : m₁ = fun y => if y = PySem.Str.ofString "unit" then some (.ref u) else if y = PySem.Str.ofString "rows" then some (.ref D0) else m₁ y := by
    funext y
    by_cases y1 : y = PySem.Str.ofString "unit"
    · subst y1; exact m1
    · by_cases y2 : y = PySem.Str.ofString "rows"
      · subst y2; exact m2
      · simp only [y1, y2, if_false]
  rw [hm] at F2
  clear hm m1 m2
  have X2 := S.X.keeps B2.stays
  have TT2 := S.T.keeps B2.stays
  have hxk : (xs.take k).toArray.size = k := by simp; omega
  try k_fold
  k_steps
  unfold Halt
  intro h3 tk3 v g3 p' tz' T3 F3 B3 N3 hv
  have X3 := S.X.keeps B3.stays
  have TT3 := S.T.keeps B3.stays
  (try dsimp only at N3)
  rcases hv with ⟨hp, hv, rfl⟩ | ⟨hp, ⟨te, rfl⟩, rfl⟩ | ⟨hp, _, _⟩
  · obtain ⟨d, hd1, hd2⟩ := hx.get hv
    k_steps
    (rename Fr _ _ _ _ => F9)
    (rename News _ _ _ _ => N9)
    replace hv : xs[k]? = some v := by simpa using hv
    rw [push_take hv] at N9
    refine' ⟨_, _, _, g3, (D0, listOf (xs.take (k + 1)).toArray _) :: (u, instObj 142 du) :: (du, unitD w ui f (.int ((k + 1 : Nat) : Int) tz')) :: (f, instObj 100 df) :: (df, fileD w fi "SEQUENTIAL" rc nb) :: (rc, listOf xs.toArray rn) :: rs, xs.length + 1 - (k + 1), rfl, T3, F9, B3, news_sub N9 ?sub, by omega, k + 1, _, tz', rfl, by omega, rfl, rfl, rfl⟩
    case sub => walk_at "my_sub"
  · obtain rfl : k = xs.length := by omega
    k_steps
    unfold WStepM
    dsimp only
    clear hxk
    k_steps
    unfold Halt
    intro h4 tk4 v g4 p' tz4 T4 F4 B4 N4 hv
    have X4 := S.X.keeps B4.stays
    have TT4 := S.T.keeps B4.stays
    (try dsimp only at N4)
    rcases hv with ⟨hp, hv, rfl⟩ | ⟨hp, ⟨te, rfl⟩, rfl⟩ | ⟨hp, ⟨t17, rfl⟩, rfl⟩
    · omega
    · omega
    · k_steps
      (rename Fr _ _ _ _ => F9)
      (rename News _ _ _ _ => N9)
      rw [List.take_length] at N9
      obtain ⟨T9, hT9⟩ := nameHead N9
      subst hT9
      (rename (_ < _) ∧ _ => hl)
      have oT := allLt_off hl.2.2.2.2.2.2.2.2
      refine kk _ _ tz4 T9 D0 cap t17 (step_cut (end1 hold T4 F9) H ?_) (N9.get (by k_mem)) (N9.get (by k_mem)) (N9.get (by k_mem)) (fresh_in1 hold T4 N9 (by k_mem) ?_) (fresh_in1 hold T4 N9 (by k_mem) ?_) (by k_ne)
      · walk_at "my_ro"
      · walk_at "my_bsne"
      · walk_at "my_bsne"
  · omega
theorem rows  (S : St w mean mg mb base) (B : Below A base outer s.heap) (Rm : Room A 11) (H : Has base outer s.heap ((u, instObj 142 du) :: (du, unitD w ui f (.int p tp)) :: (f, instObj 100 df) :: (df, fileD w fi "SEQUENTIAL" rc nb) :: (rc, listOf xs.toArray rn) :: rs)) (D : Dist [(u, instObj 142 du), (du, unitD w ui f (.int p tp)), (f, instObj 100 df), (df, fileD w fi "SEQUENTIAL" rc nb), (rc, listOf xs.toArray rn)]) (ho : OffR u rs ∧ OffR du rs ∧ OffR f rs ∧ OffR df rs ∧ OffR rc rs) (hz : xs.length ≤ 8) (hx : RecDs rs xs ds)
    (kk : ∀ h' tk tz T D' cap ta, Step (fs outer) [du] s.heap h' → h'.get? du = some (unitD w ui f (.int ((xs.length : Int) + 1) tz)) → h'.get? T = some (tupO [.ref D', .int 17 ta]) → h'.get? D' = some (listOf xs.toArray cap) → s.heap.get? T = none → s.heap.get? D' = none → (@Ne Nat T D') →
      R (.ok (.ret (.ref T))) { s with heap := h', toks := tk }) :
    codeAny (model prog w) A (.call (.ref 323) ⟨[.ref u], []⟩) R s :=
  rows_s.2 (fun prog w s base outer mean mg mb R u du f df rc nb ui fi p tp xs ds rn rs dp gd un g L' h₁ => hk_ax (P := rows_q) _ rows_k (((((prog, w), (s, base)), ((outer, mean), (mg, mb))), (((R, u), (du, f)), ((df, rc), nb))), ((((ui, fi), (p, tp)), ((xs, ds), rn)), (((rs, dp), (gd, un)), ((g, L'), h₁))))) A prog w s base outer mean mg mb R u du f df rc nb ui fi p tp xs ds rn rs S B Rm H D ho hz hx kk
end
end
section
open PySem PySem.W PyProof.Rows PySem.Spec PySem.Calls PyProof.Rows.LCg PySem.SeqAt
theorem RecDs.all {rs : List (Addr × Obj)} : ∀ {vs : List Value} {ds : List PyData}, RecDs rs vs ds → PyData.canLayAll0 ds = true ∧ PyData.depthAll ds ≤ 8 ∧ vs.length = ds.length ∧ ∀ h : Heap, (∀ q ∈ rs, h.get? q.1 = some q.2) → ∃ as, ReadsAll h vs ds as
  | _, _, .nil => ⟨rfl, Nat.zero_le _, rfl, fun _ _ => ⟨_, .nil⟩⟩
  | _, _, .cons (d := d) (ds := ds) a _ c r => by
    obtain ⟨h1, h2, h3, h4⟩ := r.all
    refine ⟨by simp [PyData.canLayAll0, canLay_of_shaped a.1, h1], by simp only [PyData.depthAll]; omega, by simp [h3], fun h hh => ?_⟩
    obtain ⟨as, x⟩ := a.2 h hh
    obtain ⟨bs, y⟩ := h4 h hh
    exact ⟨_, .cons x y⟩
theorem recList {rs : List (Addr × Obj)} {D : Addr} {vs : List Value} {ds : List PyData} {n : Nat} (x : RecDs rs vs ds) (h : (D, listOf vs.toArray n) ∈ rs) : RecD rs (.ref D) (.list ds) ∧ PyData.depth (.list ds) ≤ 9 := by
  obtain ⟨h1, h2, h3, h4⟩ := x.all
  have hd : PyData.depth (.list ds) ≤ 9 := by simp only [PyData.depth]; omega
  refine ⟨⟨by simp only [shaped, PyData.canLay0, h1, Bool.true_and, decide_eq_true_eq]; omega, fun hp hh => ?_⟩, hd⟩
  obtain ⟨as, r⟩ := h4 hp hh
  exact ⟨_, .list (hh _ h) rfl rfl r⟩
theorem recPair {rs : List (Addr × Obj)} {T D : Addr} {d : PyData} {c : Int} {t : Tok} (x : RecD rs (.ref D) d) (hd : d.depth ≤ 9) (h : (T, tupO [.ref D, .int c t]) ∈ rs) : RecD rs (.ref T) (.tuple [d, .int c]) := by
  refine ⟨by unfold shaped; rw [Bool.and_eq_true]; exact ⟨by simp [PyData.canLay0, PyData.canLayAll0, canLay_of_shaped x.1], by rw [decide_eq_true_eq]; simp only [PyData.depth, PyData.depthAll]; omega⟩, fun hp hh => ?_⟩
  obtain ⟨as, r⟩ := x.2 hp hh
  exact ⟨_, .tuple (hh _ h) rfl rfl (.cons r (.cons (.int _ _) .nil))⟩
theorem RecDs.mono {rs rs' : List (Addr × Obj)} (hs : ∀ q ∈ rs, q ∈ rs') : ∀ {vs : List Value} {ds : List PyData}, RecDs rs vs ds → RecDs rs' vs ds
  | _, _, .nil => .nil
  | _, _, .cons a b c r => .cons (a.mono hs) b c (r.mono hs)
theorem recListA {rs rs' : List (Addr × Obj)} {D : Addr} {vs : List Value} {ds : List PyData} {n : Nat} (x : RecDs rs vs ds) (h : (D, listOf vs.toArray n) ∈ rs') (hs : ∀ q ∈ rs, q ∈ rs') : RecD rs' (.ref D) (.list ds) := (recList (x.mono hs) h).1
theorem RecDs.take {rs : List (Addr × Obj)} : ∀ {vs : List Value} {ds : List PyData}, RecDs rs vs ds → ∀ k, RecDs rs (vs.take k) (ds.take k)
  | _, _, .nil, k => by simp; exact .nil
  | _, _, .cons _ _ _ _, 0 => .nil
  | _, _, .cons a b c r, k + 1 => .cons a b c (r.take k)
theorem RecDs.snoc {rs : List (Addr × Obj)} {v : Value} {d : PyData} (h1 : RecD rs v d) (h2 : PyData.eqv d (.str (PySem.Str.ofString "end")) = false) (h3 : d.depth ≤ 8) : ∀ {vs : List Value} {ds : List PyData}, RecDs rs vs ds → RecDs rs (vs ++ [v]) (ds ++ [d])
  | _, _, .nil => .cons h1 h2 h3 .nil
  | _, _, .cons a b c r => .cons a b c (r.snoc h1 h2 h3)
theorem upto_take (vs : List Value) {y : Int} (h : 0 ≤ y) : (slicePick vs.toArray none (some y) none).toList = vs.take y.toNat := by
  have e : sliceBounds none (some y) none vs.toArray.size = (((0 : Nat) : Int), ((min y.toNat vs.toArray.size : Nat) : Int), 1) := by
    simp only [sliceBounds, Option.getD_none, show (1 : Int) > 0 by decide, if_true, if_neg (show ¬ (y < 0) by omega)]
    congr 1
    congr 1
    omega
  rw [kmk_pick_nat _ e]
  show (vs.drop 0).take (min y.toNat vs.toArray.size - 0) = _
  rw [List.drop_zero, Nat.sub_zero, List.size_toArray, kmk_take_min]
theorem size_ok {vs : List Value} (h : vs.length ≤ 20) : vs.toArray.size ≤ sizeLine := by rw [List.size_toArray, sizeLine_eq]; omega
theorem line_M25_1 : True := by
  k_with_none
  w_top off
  k_with "my:k_mem" => (first | exact m0_ | exact m1_ | exact m2_ | exact m3_ | exact m4_ | exact m5_ | exact m6_ | exact m7_ | (refine m8s_ ?_; k_mem))
  k_with "my:k_ne" => (((try dsimp only); first
  | exact AllNe.mem (by assumption) (_, _) (by k_mem)
  | exact Ne.symm (AllNe.mem (by assumption) (_, _) (by k_mem))
  | assumption
  | exact Ne.symm (by assumption)
  | exact Nat.ne_of_lt (lt_at (by assumption) (by k_mem))
  | exact Nat.ne_of_gt (lt_at (by assumption) (by k_mem))
  | (refine neN ?_; omega)))
  k_with "my_enter" => ((
  (case ho => k_is)
  (case hcd => k_is)
  (case hbind => exact BindsTo.of_eq rfl)
  (case hloc => exact locs rfl)
  (case hco => exact rfl)
  (case hgen => exact rfl)
  (case hk => exact rfl)
  (case hcell => decide)))
  k_with "my_dist" => (((simp only [Dist, AllNe, and_true]); (repeat' (refine And.intro ?_ ?_)); all_goals k_ne))
  k_with "my_bs" => (first | exact List.forall_mem_nil _ | (refine List.forall_mem_cons.mpr ⟨⟨⟨_, by k_mem⟩, ⟨by k_ne, by k_ne⟩⟩, ?_⟩; walk_at "my_bs"))
  k_with "my_bs0" => (first | exact List.forall_mem_nil _ | (refine List.forall_mem_cons.mpr ⟨⟨_, by k_mem⟩, ?_⟩; walk_at "my_bs0"))
  k_with "my_ro" => (first | exact List.forall_mem_nil _ | (refine List.forall_mem_cons.mpr ⟨?aZ, ?bZ⟩; (case aZ => first | exact fun _ => News.get (by k_asm) (by k_mem) | exact fun hn => absurd (by simp) hn); (case bZ => walk_at "my_ro")))
  k_with "exec Raise some none" => ((k_here; (with_reducible show wpAny _ _ (exec (Stmt.Raise (some (Expr.Call (Expr.Name (PySem.Str.ofString "IoFault") _) _ _ _)) none _) _) _ _ _); k_dflt (refine' raise_K (C := 51) ?XZ ?KZ ?bZ ?tZ ?hZ ?_; (case XZ => k_asm); (case KZ => k_is); (case bZ => rfl); (case tZ => rfl); (case hZ => first | exact rfl | exact Room.hand (by assumption)); k_whole)))
  k_with "exec Raise some none" => ((k_here; (with_reducible show wpAny _ _ (exec (Stmt.Raise (some (Expr.Call (Expr.Name (PySem.Str.ofString "EndFault") _) _ _ _)) none _) _) _ _ _); k_dflt (refine' raise_K (C := 70) ?XZ ?KZ ?bZ ?tZ ?hZ ?_; (case XZ => k_asm); (case KZ => k_is); (case bZ => rfl); (case tZ => rfl); (case hZ => first | exact rfl | exact Room.hand (by assumption)); k_whole)))
  k_with "call ref" => ((k_here; (with_reducible show wpAny _ _ (PySem.call (Value.ref 51) [_, _]) _ _ _); k_dflt (refine' mk51_K ?SZ ?BZ ?FZ ?NZ ?RZ ?_; (case SZ => assumption); (case BZ => assumption); (case FZ => k_asm); (case NZ => k_asm); (case RZ => exact Room.less (by assumption) (by decide)); k_whole); intro h' tk' e' t' d' tx' ty' F' N' l1 l2 l3; (try k_sweep)))
  k_with "call ref" => ((k_here; (with_reducible show wpAny _ _ (PySem.call (Value.ref 70) [_]) _ _ _); k_dflt (refine' mk70_K ?SZ ?BZ ?FZ ?NZ ?RZ ?_; (case SZ => assumption); (case BZ => assumption); (case FZ => k_asm); (case NZ => k_asm); (case RZ => exact Room.less (by assumption) (by decide)); k_whole); intro h' tk' e' t' d' tx' ty' tz' F' N' l1 l2 l3; (try k_sweep)))
  k_with "RaiseMade" => ((k_dflt (refine' raiseMade_ ?XZ ?hZ ?_; (case XZ => k_in); (case hZ => exact News.get (by k_asm) (by k_mem)))))
  k_with "my_enterC" => ((
  (case ho => k_is)
  (case hcd => k_is)
  (case hbind => exact BindsTo.of_eq rfl)
  (case hkind => exact rfl)
  (case hnd => decide +kernel)
  (case hco => exact rfl)
  (case hgen => exact rfl)
  (case hk => exact rfl)))
  k_with "my:k_all" => (exact OffR.all (by assumption))
  k_with "my_sub" => (first | exact List.forall_mem_nil _ | (refine List.forall_mem_cons.mpr ⟨?aZ, ?bZ⟩; (case aZ => k_mem); (case bZ => walk_at "my_sub")) | exact fun _ hq => by ((repeat refine List.Mem.tail _ ?_); exact hq))
  k_with "my_mems" => (first | exact List.forall_mem_nil _ | (refine List.forall_mem_cons.mpr ⟨?aZ, ?bZ⟩; (case aZ => k_mem); (case bZ => walk_at "my_mems")))
  k_with "my_allne" => (((simp only [AllNe, and_true]); (repeat' (refine And.intro ?_ ?_)); all_goals k_ne))
  k_with "my_ro" => (first | exact List.forall_mem_nil _ | (refine List.forall_mem_cons.mpr ⟨?aZ, ?bZ⟩; (case aZ => first | exact fun _ => News.get (by k_asm) (by k_mem) | exact fun hn => absurd (by simp) hn); (case bZ => walk_at "my_ro")) | exact fun _ hq _ => News.get (by k_asm) (by ((repeat refine List.Mem.tail _ ?_); exact hq)))
  k_with "my_bsne" => (first | exact List.forall_mem_nil _ | (refine List.forall_mem_cons.mpr ⟨?aZ, ?bZ⟩; (case aZ => k_ne); (case bZ => walk_at "my_bsne")) | exact OffR.all (by assumption))
  k_with "eval ListComp" => (refine halt ?_)
  k_with "exec While Compare" => (refine halt ?_)
  k_with "exec For" => (refine halt ?_)
  k_with "exec For Name Name cons nil" => (refine halt ?_)
  k_with "exec For Name Call cons nil" => (refine halt ?_)
  k_with "call ref" => ((k_here; (with_reducible show wpAny _ _ (PySem.call (Value.ref 265) [Value.ref _]) _ _ _); k_dflt (refine' rewind_K ?SZ ?BZ ?FZ ?NZ ?RZ ?h1Z ?DZ ?UZ ?_; (case SZ => assumption); (case BZ => assumption); (case FZ => k_asm); (case NZ => k_asm); (case RZ => exact Room.less (by assumption) (by decide)); (case h1Z => walk_at "my_mems"); (case DZ => walk_at "my_dist"); (case UZ => k_updF)); intro h' tk' tz' F' N'; (try dsimp only at N'); (try k_sweep)))
  k_with "call ref" => ((k_here; (with_reducible show wpAny _ _ (PySem.call (Value.ref 258) [Value.ref _]) _ _ _); k_dflt (refine' backspace0_K ?SZ ?BZ ?FZ ?NZ ?RZ ?h1Z ?DZ ?hpZ ?_; (case SZ => assumption); (case BZ => assumption); (case FZ => k_asm); (case NZ => k_asm); (case RZ => exact Room.less (by assumption) (by decide)); (case h1Z => walk_at "my_mems"); (case DZ => walk_at "my_dist"); (case hpZ => omega)); intro h' tk' F' N'; (try dsimp only at N'); (try k_sweep)))
  k_with "call ref" => ((k_here; (with_reducible show wpAny _ _ (PySem.call (Value.ref 258) [Value.ref _]) _ _ _); k_dflt (refine' backspace_K ?SZ ?BZ ?FZ ?NZ ?RZ ?h1Z ?DZ ?hpZ ?UZ ?_; (case SZ => assumption); (case BZ => assumption); (case FZ => k_asm); (case NZ => k_asm); (case RZ => exact Room.less (by assumption) (by decide)); (case h1Z => walk_at "my_mems"); (case DZ => walk_at "my_dist"); (case hpZ => omega); (case UZ => k_updF)); intro h' tk' tz' F' N'; (try dsimp only at N'); (try k_sweep)))
  k_with "call ref" => ((k_here; (with_reducible show wpAny _ _ (PySem.call (Value.ref 230) [Value.ref _]) _ _ _); k_dflt (refine' readR_K ?SZ ?BZ ?FZ ?NZ ?RZ ?h1Z ?DZ ?hzZ ?h0Z ?hpZ ?hvZ ?UZ ?_; (case SZ => assumption); (case BZ => assumption); (case FZ => k_asm); (case NZ => k_asm); (case RZ => exact Room.less (by assumption) (by decide)); (case h1Z => walk_at "my_mems"); (case DZ => walk_at "my_dist"); (case hzZ => first | assumption | omega); (case h0Z => omega); (case hpZ => omega); (case hvZ => assumption); (case UZ => k_updF)); intro h' tk' tz' F' N'; (try dsimp only at N'); (try k_sweep)))
  k_with "call ref" => ((k_here; (with_reducible show wpAny _ _ (PySem.call (Value.ref 244) [Value.ref _, _]) _ _ _); k_dflt (refine' writeR_K ?SZ ?BZ ?FZ ?NZ ?RZ ?h1Z ?DZ ?hzZ ?h0Z ?hpZ ?U1Z ?U2Z ?hdrZ ?_; (case SZ => assumption); (case BZ => assumption); (case FZ => k_asm); (case NZ => k_asm); (case RZ => exact Room.less (by assumption) (by decide)); (case h1Z => walk_at "my_mems"); (case DZ => walk_at "my_dist"); (case hzZ => first | assumption | omega); (case h0Z => omega); (case hpZ => omega); (case U1Z => k_updF); (case U2Z => (intro tz8; (try dsimp only); k_updF)); (case hdrZ => k_ne)); intro h' tk' cap' tz' F' N'; (try dsimp only at N'); (try k_sweep)))
  k_with "call ref" => ((k_here; (with_reducible show wpAny _ _ (PySem.call (Value.ref 251) [Value.ref _]) _ _ _); k_dflt (refine' endR_K ?SZ ?BZ ?FZ ?NZ ?RZ ?h1Z ?DZ ?hzZ ?h0Z ?hpZ ?U1Z ?U2Z ?hdrZ ?_; (case SZ => assumption); (case BZ => assumption); (case FZ => k_asm); (case NZ => k_asm); (case RZ => exact Room.less (by assumption) (by decide)); (case h1Z => walk_at "my_mems"); (case DZ => walk_at "my_dist"); (case hzZ => first | assumption | omega); (case h0Z => omega); (case hpZ => omega); (case U1Z => k_updF); (case U2Z => (intro tz8; (try dsimp only); k_updF)); (case hdrZ => k_ne)); intro h' tk' cap' tz' F' N'; (try dsimp only at N'); (try k_sweep)))
  k_with "call ref" => ((k_here; (with_reducible show wpAny _ _ (PySem.call (Value.ref 306) [Value.ref 230, Value.ref _, Value.ref _]) _ _ _); k_dflt (refine' heardRS_K ?SZ ?BZ ?FZ ?NZ ?RZ ?T0Z ?p0Z ?h1Z ?DZ ?hzZ ?h0Z ?DpZ ?UZ ?_; (case SZ => assumption); (case BZ => assumption); (case FZ => k_asm); (case NZ => k_asm); (case RZ => exact Room.less (by assumption) (by decide)); (case T0Z => assumption); (case p0Z => k_mem); (case h1Z => walk_at "my_mems"); (case DZ => walk_at "my_dist"); (case hzZ => first | assumption | omega); (case h0Z => omega); (case DpZ => walk_at "my_allne"); (case UZ => k_updF)); skip))
  k_with "call ref" => ((k_here; (with_reducible show wpAny _ _ (PySem.call (Value.ref 306) [Value.ref 244, Value.ref _, Value.ref _]) _ _ _); k_dflt (refine' heardWS_K ?SZ ?BZ ?FZ ?NZ ?RZ ?T0Z ?p0Z ?h1Z ?DZ ?hzZ ?h0Z ?hpZ ?DpZ ?_; (case SZ => assumption); (case BZ => assumption); (case FZ => k_asm); (case NZ => k_asm); (case RZ => exact Room.less (by assumption) (by decide)); (case T0Z => assumption); (case p0Z => k_mem); (case h1Z => walk_at "my_mems"); (case DZ => walk_at "my_dist"); (case hzZ => first | assumption | omega); (case h0Z => omega); (case hpZ => omega); (case DpZ => walk_at "my_allne")); skip))
  k_with "subscriptTail Name Slice ref ref" => ((k_here; (with_reducible show wpAny _ _ (subscriptTail _ (PySem.Expr.Slice _ _ none _) (Value.ref _) (Value.ref _)) _ _ _); k_dflt (refine' kmk_slice_lit ?FZ ?NZ ?lZ ?pZ ?qZ ?eZ ?_ ?sZ ?tZ ?zZ; (case FZ => k_asm); (case NZ => k_asm); (case lZ => exact ⟨_, News.get (by k_asm) (by k_mem), rfl, _, rfl⟩); (case pZ => kmk_part); (case qZ => kmk_part); (case eZ => exact upto_take _ (by omega)); (case sZ => with_unfolding_all rfl); (case tZ => kmk_pure); (case zZ => exact size_ok (by first | assumption | omega))); intro D' h' F' N' l1; (try k_lt l1); (try k_sweep)))
  k_with "compareOp NotEq ref ref" => ((k_here; k_dflt (refine' cmpNe ?NZ (fun _ hq => hq) ?aZ ?bZ ?uZ ?_; (case NZ => k_asm); (case aZ => (refine' recListA ?x1Z ?h1Z ?s1Z; (case x1Z => assumption); (case h1Z => k_mem); (case s1Z => walk_at "my_sub"))); (case bZ => (refine' recListA ?x2Z ?h2Z ?s2Z; (case x2Z => assumption); (case h2Z => k_mem); (case s2Z => walk_at "my_sub"))); (case uZ => assumption))))
  k_with "compareOp Eq" => ((k_here; k_dflt (refine' cmpEq ?NZ ?sZ ?aZ ?bZ ?uZ ?_; (case NZ => k_asm); (case aZ => assumption); (case bZ => assumption); (case uZ => assumption); (case sZ => walk_at "my_sub"))))
  k_with "subscriptTail" => ((k_here; (with_reducible show wpAny _ _ (subscriptTail _ _ (Value.ref _) (Value.int _ _)) _ _ _); k_dflt (refine' listAt ?NZ ?mZ ?aZ ?bZ ?vZ ?_; (case NZ => k_asm); (case mZ => k_mem); (case vZ => assumption); (case aZ => omega); (case bZ => omega))))
  trivial
section
variable {prog : Program} {w : World} {A : Around} {s : Shared} {base : Heap} {outer : List Env} {mean : ExcName → Option Value} {mg mb : Str → Option Value}
  {R : Result → Shared → Prop} {u du f df rc nb : Addr} {ui : UI} {fi : FI} {p : Int} {tp : Tok} {xs : List Value} {ds : List PyData} {rn : Nat} {ra : Addr} {an : Nat} {rs : List (Addr × Obj)} {k : Nat} {tk : Tok}
noncomputable def reaches_s : (Rq : Program → World → Shared → Heap → List Env → (ExcName → Option Value) → (Str → Option Value) → (Str → Option Value) → (Result → Shared → Prop) → Addr → Addr → Addr → Addr → Addr → Addr → UI → FI → Int → Tok → List Value → List PyData → Nat → Addr → Nat → List (Addr × Obj) → Nat → Tok → Nat → Option (List Code) → Nat → Heap → Addr → Heap → Nat → Obj → Prop) ×' ((∀ (prog : Program) (w : World) (s : Shared) (base : Heap) (outer : List Env) (mean : ExcName → Option Value) (mg : Str → Option Value) (mb : Str → Option Value) (R : Result → Shared → Prop) (u : Addr) (du : Addr) (f : Addr) (df : Addr) (rc : Addr) (nb : Addr) (ui : UI) (fi : FI) (p : Int) (tp : Tok) (xs : List Value) (ds : List PyData) (rn : Nat) (ra : Addr) (an : Nat) (rs : List (Addr × Obj)) (k : Nat) (tk : Tok) (dp : Nat) (gd : Option (List Code)) (un : Nat) (g : Heap) (L' : Addr) (h₁ : Heap) (tk₁ : Nat) (c1 : Obj), Rq prog w s base outer mean mg mb R u du f df rc nb ui fi p tp xs ds rn ra an rs k tk dp gd un g L' h₁ tk₁ c1) → ∀ (A : Around) (prog : Program) (w : World) (s : Shared) (base : Heap) (outer : List Env) (mean : ExcName → Option Value) (mg : Str → Option Value) (mb : Str → Option Value) (R : Result → Shared → Prop) (u : Addr) (du : Addr) (f : Addr) (df : Addr) (rc : Addr) (nb : Addr) (ui : UI) (fi : FI) (p : Int) (tp : Tok) (xs : List Value) (ds : List PyData) (rn : Nat) (ra : Addr) (an : Nat) (rs : List (Addr × Obj)) (k : Nat) (tk : Tok) (S : St w mean mg mb base) (B : Below A base outer s.heap) (Rm : Room A 11) (H : Has base outer s.heap ((u, instObj 142 du) :: (du, unitD w ui f (.int p tp)) :: (f, instObj 100 df) :: (df, fileD w fi "SEQUENTIAL" rc nb) :: (rc, listOf xs.toArray rn) :: (ra, listOf xs.toArray an) :: rs)) (D : Dist [(u, instObj 142 du), (du, unitD w ui f (.int p tp)), (f, instObj 100 df), (df, fileD w fi "SEQUENTIAL" rc nb), (rc, listOf xs.toArray rn), (ra, listOf xs.toArray an)]) (ho : OffR u rs ∧ OffR du rs ∧ OffR f rs ∧ OffR df rs ∧ OffR rc rs ∧ OffR ra rs) (hz : xs.length ≤ 8) (hx : RecDs rs xs ds) (hkl : k ≤ xs.length) (kk : ∀ h' tk' tz, Step (fs outer) [du] s.heap h' → h'.get? du = some (unitD w ui f (.int (k : Int) tz)) → R (.ok (.ret (.bool true))) { s with heap := h', toks := tk' }), codeAny (model prog w) A (.call (.ref 328) ⟨[.ref u, .ref ra, .int (k : Int) tk], []⟩) R s) := by
  refine ⟨?Rq, fun kHq A prog w s base outer mean mg mb R u du f df rc nb ui fi p tp xs ds rn ra an rs k tk S B Rm H D ho hz hx hkl kk => ?pfq⟩
  case pfq =>
    obtain ⟨a1, a2, a3, a4, a5, a6⟩ := ho
    have hu : A.units + 3 + 64 < cLine := by
      have := Rm.uni
      omega
    obtain ⟨ha, dp, fr, gd, un⟩ := A
    obtain rfl : ha = none := Rm.han
    obtain rfl : fr = some outer := B.stack
    refine' enterC ((u, instObj 142 du) :: (du, unitD w ui f (.int p tp)) :: (f, instObj 100 df) :: (df, fileD w fi "SEQUENTIAL" rc nb) :: (rc, listOf xs.toArray rn) :: (ra, listOf xs.toArray an) :: rs) S B Rm.d H ?ho ?hcd ?hbind ?hkind ?hnd ?h ?hco ?hgen ?hk
    walk_at "my_enterC"
    intro g L' h₁ tk₁ cells F N Y Yn B' X T hold hg hL
    have T0 : KtsTurn (fs outer) g g := KtsTurn.refl
    obtain ⟨D0, D1, D2, D3, D4, D5, _⟩ := D
    have hY := CellsAre.one Y
    obtain ⟨c1, hE', e1⟩ := hY
    subst hE'
    clear Y
    (try simp only [List.cons_append, List.nil_append] at N)
    (try simp only [List.forall_mem_cons, List.not_mem_nil, false_implies, implies_true, and_true] at Yn)
    skip
    revert e1; revert D5; revert D4; revert D3; revert D2; revert D1; revert D0; revert T0; revert hL; revert hg; revert hold; revert T; revert X; revert B'; revert Yn; revert N; revert F; revert hu; revert a6; revert a5; revert a4; revert a3; revert a2; revert a1; revert kk; revert hkl; revert hx; revert hz; revert H; revert Rm; revert B; revert S
    exact kHq prog w s base outer mean mg mb R u du f df rc nb ui fi p tp xs ds rn ra an rs k tk dp gd un g L' h₁ tk₁ c1
noncomputable def reaches_q (x : ((((((Program × World) × Shared) × (Heap × List Env)) × (((ExcName → Option Value) × (Str → Option Value)) × ((Str → Option Value) × (Result → Shared → Prop)))) × ((((Addr × Addr) × Addr) × (Addr × Addr)) × ((Addr × UI) × (FI × Int)))) × (((((Tok × List Value) × List PyData) × (Nat × Addr)) × ((Nat × List (Addr × Obj)) × (Nat × Tok))) × (((Nat × Option (List Code)) × (Nat × Heap)) × ((Addr × Heap) × (Nat × Obj)))))) : Prop := reaches_s.1 x.1.1.1.1.1.1 x.1.1.1.1.1.2 x.1.1.1.1.2 x.1.1.1.2.1 x.1.1.1.2.2 x.1.1.2.1.1 x.1.1.2.1.2 x.1.1.2.2.1 x.1.1.2.2.2 x.1.2.1.1.1.1 x.1.2.1.1.1.2 x.1.2.1.1.2 x.1.2.1.2.1 x.1.2.1.2.2 x.1.2.2.1.1 x.1.2.2.1.2 x.1.2.2.2.1 x.1.2.2.2.2 x.2.1.1.1.1.1 x.2.1.1.1.1.2 x.2.1.1.1.2 x.2.1.1.2.1 x.2.1.1.2.2 x.2.1.2.1.1 x.2.1.2.1.2 x.2.1.2.2.1 x.2.1.2.2.2 x.2.2.1.1.1 x.2.2.1.1.2 x.2.2.1.2.1 x.2.2.1.2.2 x.2.2.2.1.1 x.2.2.2.1.2 x.2.2.2.2.1 x.2.2.2.2.2
noncomputable def reaches_c := @Classical.epsilon _ ⟨((((((PySem.Challenge.pw_sa0211_01, aWorld 1), {}), ({}, [])), ((fun _ => none, fun _ => none), (fun _ => none, fun _ _ => True))), ((((0, 0), 0), (0, 0)), ((0, ⟨0, 0, 0, 0, .none, .none⟩), (⟨0, 0, 0, 0, 0, 0, 0, 0, 0, 0, Str.ofString "", Str.ofString "", 0⟩, 0)))), (((((0, []), []), (0, 0)), ((0, []), (0, 0))), (((0, none), (0, {})), ((0, {}), (0, instObj 0 0)))))⟩ fun x => ¬ reaches_q x
theorem reaches_k : reaches_q reaches_c := by
  refine (?fq : ∀ (prog : Program) (w : World) (s : Shared) (base : Heap) (outer : List Env) (mean : ExcName → Option Value) (mg : Str → Option Value) (mb : Str → Option Value) (R : Result → Shared → Prop) (u : Addr) (du : Addr) (f : Addr) (df : Addr) (rc : Addr) (nb : Addr) (ui : UI) (fi : FI) (p : Int) (tp : Tok) (xs : List Value) (ds : List PyData) (rn : Nat) (ra : Addr) (an : Nat) (rs : List (Addr × Obj)) (k : Nat) (tk : Tok) (dp : Nat) (gd : Option (List Code)) (un : Nat) (g : Heap) (L' : Addr) (h₁ : Heap) (tk₁ : Nat) (c1 : Obj), reaches_s.1 prog w s base outer mean mg mb R u du f df rc nb ui fi p tp xs ds rn ra an rs k tk dp gd un g L' h₁ tk₁ c1) _ _ _ _ _ _ _ _ _ _ _ _ _ _ _ _ _ _ _ _ _ _ _ _ _ _ _ _ _ _ _ _ _ _ _ 
  intro prog w s base outer mean mg mb R u du f df rc nb ui fi p tp xs ds rn ra an rs k tk dp gd un g L' h₁ tk₁ c1 S B Rm H hz hx hkl kk a1 a2 a3 a4 a5 a6 hu F N Yn B' X T hold hg hL T0 D0 D1 D2 D3 D4 D5 e1
  (try dsimp only)
  try k_fold
  k_steps
  unfold Halt
  have oY : OffR (L' + 1) rs := ⟨AllNe.mem Yn.2.2.2.2.2.2⟩
  (rename Obj => oc)
  (rename Fr _ _ _ _ => F1)
  refine ListComp_M B' F1 (by with_unfolding_all rfl) (by decide) (by rfl) (by decide) (by rfl) ?_
  k_steps
  (rename Fr _ _ _ _ => F2)
  (rename News _ _ _ _ => N2)
  (rename (_ < _) ∧ _ => hl)
  obtain ⟨D1, hD1⟩ := nameHead N2
  subst hD1
  have oD := allLt_off hl.2.2.2.2.2.2.2
  have hsz : (xs.take k).toArray.size = k := by simp; omega
  refine ⟨_, _, fun i ys gq nw => ∃ tz, nw = (D1, listOf (xs.take k).toArray 0) :: (L' + 1, oc) :: (u, instObj 142 du) :: (du, unitD w ui f (.int (i : Int) tz)) :: (f, instObj 100 df) :: (df, fileD w fi "SEQUENTIAL" rc nb) :: (rc, listOf xs.toArray rn) :: (ra, listOf xs.toArray an) :: rs ∧ ys = xs.take i,
    _, ?sz, rfl, F2, B', N2, ⟨_, rfl, rfl⟩, .inr (.inl ⟨D1, (xs.take k).toArray, rfl, ⟨_, N2.get (by k_mem), rfl, _, rfl⟩, rfl, rfl, ?keep⟩), fun hh => ?turn, fun hh => ?done⟩
  case sz => rw [hsz, sizeLine_eq]; omega
  case keep =>
    rintro i ys g2 nw h ⟨tz, rfl, _⟩ _ N'
    exact ⟨_, N'.get (by k_mem), rfl, _, rfl⟩
  case turn =>
    intro i ys g2 nw v I oI C oC D m₂ h tk E' hi hyl hP hNs hx2 T2 F2 B2 N2 off ne hJ
    obtain ⟨tz, rfl, rfl⟩ := hJ
    rw [hsz] at hi
    obtain ⟨o1, o2, o3⟩ := off_all off
    obtain ⟨n1, n2, n3⟩ := ne
    have w1 : OffR I rs := ⟨AllNe.mem o1.2.2.2.2.2.2.2.2⟩
    have X2 := S.X.keeps B2.stays
    have TT2 := S.T.keeps B2.stays
    k_steps
    unfold Halt
    intro h3 tk3 v3 g3 p' tz' T3 F3 B3 N3 hv
    (try dsimp only at N3)
    rcases hv with ⟨hp, hv, rfl⟩ | ⟨hp, _, _⟩ | ⟨hp, _, _⟩
    · replace hv : xs[i]? = some v3 := by simpa using hv
      refine' ⟨_, _, g3, (D1, listOf (xs.take k).toArray 0) :: (L' + 1, oc) :: (u, instObj 142 du) :: (du, unitD w ui f (.int ((i + 1 : Nat) : Int) tz')) :: (f, instObj 100 df) :: (df, fileD w fi "SEQUENTIAL" rc nb) :: (rc, listOf xs.toArray rn) :: (ra, listOf xs.toArray an) :: rs, rfl, T3, F3, B3, news_sub N3 ?sub, off, tz', rfl, ?ys⟩
      case sub => walk_at "my_sub"
      case ys => rw [List.take_add_one, hv]; rfl
    · omega
    · omega
  case done =>
    intro D h tk ys g2 nw hyl T2 F2 B2 N2 o1 hJ
    rw [hsz] at hJ hyl
    obtain ⟨tz, rfl, rfl⟩ := hJ
    have o2 := off1_all o1
    have X2 := S.X.keeps B2.stays
    have TT2 := S.T.keeps B2.stays
    have hxt := hx.take k
    rcases Nat.eq_zero_or_pos k with hk0 | hk0
    · subst hk0
      k_steps
      (try show R (.ok (.ret _)) _)
      (rename Fr _ _ _ _ => F9)
      (rename News _ _ _ _ => N9)
      refine kk _ _ tz (step_cut (end1 hold T2 F9) H ?_) (N9.get (by k_mem))
      walk_at "my_ro"
    · have hw : xs[((k : Int) - 1).toNat]? = some xs[k - 1] := by
        rw [show ((k : Int) - 1).toNat = k - 1 by omega]
        exact List.getElem?_eq_getElem _
      generalize xs[k - 1] = w9 at hw
      obtain ⟨d9, r9, _⟩ := hx.get hw
      k_steps
      · exfalso
        omega
      · (try show R (.ok (.ret _)) _)
        (rename Fr _ _ _ _ => F9)
        (rename News _ _ _ _ => N9)
        rw [show (k : Int) - 1 + 1 = (k : Int) by omega] at N9
        refine kk _ _ _ (step_cut (end1 hold T2 F9) H ?_) (N9.get (by k_mem))
        walk_at "my_ro"
theorem reaches  (S : St w mean mg mb base) (B : Below A base outer s.heap) (Rm : Room A 11) (H : Has base outer s.heap ((u, instObj 142 du) :: (du, unitD w ui f (.int p tp)) :: (f, instObj 100 df) :: (df, fileD w fi "SEQUENTIAL" rc nb) :: (rc, listOf xs.toArray rn) :: (ra, listOf xs.toArray an) :: rs)) (D : Dist [(u, instObj 142 du), (du, unitD w ui f (.int p tp)), (f, instObj 100 df), (df, fileD w fi "SEQUENTIAL" rc nb), (rc, listOf xs.toArray rn), (ra, listOf xs.toArray an)]) (ho : OffR u rs ∧ OffR du rs ∧ OffR f rs ∧ OffR df rs ∧ OffR rc rs ∧ OffR ra rs) (hz : xs.length ≤ 8) (hx : RecDs rs xs ds) (hkl : k ≤ xs.length)
    (kk : ∀ h' tk' tz, Step (fs outer) [du] s.heap h' → h'.get? du = some (unitD w ui f (.int (k : Int) tz)) → R (.ok (.ret (.bool true))) { s with heap := h', toks := tk' }) :
    codeAny (model prog w) A (.call (.ref 328) ⟨[.ref u, .ref ra, .int (k : Int) tk], []⟩) R s :=
  reaches_s.2 (fun prog w s base outer mean mg mb R u du f df rc nb ui fi p tp xs ds rn ra an rs k tk dp gd un g L' h₁ tk₁ c1 => hk_ax (P := reaches_q) _ reaches_k ((((((prog, w), s), (base, outer)), ((mean, mg), (mb, R))), ((((u, du), f), (df, rc)), ((nb, ui), (fi, p)))), (((((tp, xs), ds), (rn, ra)), ((an, rs), (k, tk))), (((dp, gd), (un, g)), ((L', h₁), (tk₁, c1)))))) A prog w s base outer mean mg mb R u du f df rc nb ui fi p tp xs ds rn ra an rs k tk S B Rm H D ho hz hx hkl kk
end
end
section
open PySem PySem.W PyProof.Rows PySem.Spec PySem.Calls PyProof.Rows.LCg PySem.SeqAt
section
variable {prog : Program} {w : World} {A : Around} {s : Shared} {base g : Heap} {outer : List Env} {mean : ExcName → Option Value} {mg mb : Str → Option Value}
  {L a : Addr} {m : Str → Option Value} {news : List (Addr × Obj)} {env : Env} {Q E : Value → Shared → Prop} {u du f df rc nb : Addr} {ui : UI} {fi : FI} {p : Int} {tp : Tok} {xs : List Value} {ds : List PyData} {rn an : Nat} {ra : Addr} {rs : List (Addr × Obj)} {g₀ : Heap} {gg : Obj → List (Addr × Obj)} {k : Nat} {tk : Tok}
theorem rows_K {hpS : Heap} {gnS : Array GenState} {drS : Drawn} {tkS : Nat} {osS : OsState} (S : St w mean mg mb base) (B : Below A base outer g) (F : Fr g L hpS m) (N : News g L hpS news) (Rm : Room A 12) (T0 : KtsTurn (fs outer) g₀ g)
    (h1 : ∀ q ∈ ((u, instObj 142 du) :: (du, unitD w ui f (.int p tp)) :: (f, instObj 100 df) :: (df, fileD w fi "SEQUENTIAL" rc nb) :: (rc, listOf xs.toArray rn) :: rs), q ∈ news) (D : Dist [(u, instObj 142 du), (du, unitD w ui f (.int p tp)), (f, instObj 100 df), (df, fileD w fi "SEQUENTIAL" rc nb), (rc, listOf xs.toArray rn)]) (ho : OffR u rs ∧ OffR du rs ∧ OffR f rs ∧ OffR df rs ∧ OffR rc rs) (hz : xs.length ≤ 8) (hx : RecDs rs xs ds) (U : UpdF du (unitD w ui f (.int p tp)) news gg)
    (kk : Halt (∀ h' tk tz T D' cap ta g', KtsTurn (fs outer) g₀ g' → Fr g' L h' m → Below A base outer g' → News g' L h' ((T, tupO [.ref D', .int 17 ta]) :: (D', listOf xs.toArray cap) :: gg (unitD w ui f (.int ((xs.length : Int) + 1) tz))) → AllNe T news → AllNe D' news → (@Ne Nat T D') → Q (.ref T) ⟨h', gnS, drS, tk, osS⟩))
    (hf : env.frame = some L := by rfl) (hk : env.scope.kind = .function := by rfl) :
    wpAny (model prog w) (A.deeper env) (call (.ref 323) [.ref u]) Q E ⟨hpS, gnS, drS, tkS, osS⟩ := by
  refine wpAny_call (rows S (pushX B F hf hk) (Rm.deeper (by decide)) (has_ofX hf B N h1) D ho hz hx fun h' tk tz T D' cap ta x1 x2 x3 x4 x5 x6 x7 => ?_)
  rw [fsX hf] at x1
  obtain ⟨g', T', F', B', N'⟩ := useB1 x1 B F N U x2
  exact kk h' tk tz T D' cap ta g' (T0.trans T') F' B' (useNew F x5 x3 (useNew F x6 x4 N' (T'.none_ _ (new_none F x6))) (T'.none_ _ (new_none F x5))) (new_ne N x5) (new_ne N x6) x7
theorem reaches_K {hpS : Heap} {gnS : Array GenState} {drS : Drawn} {tkS : Nat} {osS : OsState} (S : St w mean mg mb base) (B : Below A base outer g) (F : Fr g L hpS m) (N : News g L hpS news) (Rm : Room A 12) (T0 : KtsTurn (fs outer) g₀ g)
    (h1 : ∀ q ∈ ((u, instObj 142 du) :: (du, unitD w ui f (.int p tp)) :: (f, instObj 100 df) :: (df, fileD w fi "SEQUENTIAL" rc nb) :: (rc, listOf xs.toArray rn) :: (ra, listOf xs.toArray an) :: rs), q ∈ news) (D : Dist [(u, instObj 142 du), (du, unitD w ui f (.int p tp)), (f, instObj 100 df), (df, fileD w fi "SEQUENTIAL" rc nb), (rc, listOf xs.toArray rn), (ra, listOf xs.toArray an)]) (ho : OffR u rs ∧ OffR du rs ∧ OffR f rs ∧ OffR df rs ∧ OffR rc rs ∧ OffR ra rs) (hz : xs.length ≤ 8) (hx : RecDs rs xs ds) {pl : Int} (hp0 : 0 ≤ pl) (hkl : pl ≤ (xs.length : Int)) (U : UpdF du (unitD w ui f (.int p tp)) news gg)
    (kk : Halt (∀ h' tk tz g', KtsTurn (fs outer) g₀ g' → Fr g' L h' m → Below A base outer g' → News g' L h' (gg (unitD w ui f (.int pl tz))) → Q (.bool true) ⟨h', gnS, drS, tk, osS⟩))
    (hf : env.frame = some L := by rfl) (hk : env.scope.kind = .function := by rfl) :
    wpAny (model prog w) (A.deeper env) (call (.ref 328) [.ref u, .ref ra, .int pl tk]) Q E ⟨hpS, gnS, drS, tkS, osS⟩ := by
  obtain ⟨k, rfl⟩ := Int.eq_ofNat_of_zero_le hp0
  refine wpAny_call (reaches S (pushX B F hf hk) (Rm.deeper (by decide)) (has_ofX hf B N h1) D ho hz hx (by omega) fun h' tk' tz x1 x2 => ?_)
  rw [fsX hf] at x1
  obtain ⟨g', T', F', B', N'⟩ := useB1 x1 B F N U x2
  exact kk h' tk' tz g' (T0.trans T') F' B' N'
end
end
section
open PySem PySem.W PyProof.Rows PySem.Spec PySem.Calls PyProof.Rows.LCg PySem.SeqAt
inductive SpR (rs : List (Addr × Obj)) : List (Addr × Obj) → (List (Addr × Obj) → List (Addr × Obj)) → Prop
  | nil : SpR rs rs (fun z => z)
  | cons {q l p} : SpR rs l p → SpR rs (q :: l) (fun z => q :: p z)
inductive UpdR (b : Addr) (o : Obj) (rs : List (Addr × Obj)) : List (Addr × Obj) → (Obj → List (Addr × Obj) → List (Addr × Obj)) → Prop
  | head {r p} : (∀ q ∈ r, q.1 ≠ b) → SpR rs r p → UpdR b o rs ((b, o) :: r) (fun o' z => (b, o') :: p z)
  | tail {q r g} : q.1 ≠ b → UpdR b o rs r g → UpdR b o rs (q :: r) (fun o' z => q :: g o' z)
theorem SpR.self {rs : List (Addr × Obj)} : ∀ {l p}, SpR rs l p → p rs = l
  | _, _, .nil => rfl
  | _, _, .cons h => by show _ :: _ = _; rw [h.self]
theorem SpR.mem {rs rs' : List (Addr × Obj)} : ∀ {l p}, SpR rs l p → ∀ q ∈ p rs', q ∈ l ∨ q ∈ rs'
  | _, _, .nil, _, h => .inr h
  | _, _, .cons h, q, hq => by
    rcases List.mem_cons.mp hq with rfl | hq
    · exact .inl (.head _)
    · exact (h.mem q hq).imp (.tail _) id
theorem UpdR.updF {b : Addr} {o : Obj} {rs : List (Addr × Obj)} : ∀ {l g}, UpdR b o rs l g → UpdF b o l (fun o' => g o' rs)
  | _, _, .head h x => by
    have e := x.self
    subst e
    exact UpdF.head h
  | _, _, .tail h x => UpdF.tail h x.updF
theorem UpdR.mem {b : Addr} {o o' : Obj} {rs rs' : List (Addr × Obj)} : ∀ {l g}, UpdR b o rs l g → ∀ q ∈ g o' rs', q ∈ g o' rs ∨ q ∈ rs'
  | _, _, .head h x, q, hq => by
    rcases List.mem_cons.mp hq with rfl | hq
    · exact .inl (.head _)
    · refine (x.mem q hq).imp (fun z => .tail _ ?_) id
      rw [x.self]; exact z
  | _, _, .tail h x, q, hq => by
    rcases List.mem_cons.mp hq with rfl | hq
    · exact .inl (.head _)
    · exact (x.mem q hq).imp (.tail _) id
theorem SpR.old {rs : List (Addr × Obj)} : ∀ {l p}, SpR rs l p → ∀ q ∈ rs, q ∈ p rs
  | _, _, .nil, _, h => h
  | _, _, .cons h, q, hq => .tail _ (h.old q hq)
theorem UpdR.old {b : Addr} {o o' : Obj} {rs : List (Addr × Obj)} : ∀ {l g}, UpdR b o rs l g → ∀ q ∈ rs, q ∈ g o' rs
  | _, _, .head _ x, q, hq => .tail _ (x.old q hq)
  | _, _, .tail _ x, q, hq => .tail _ (x.old q hq)
theorem low_end {x : PySem.Str} (h : Low x) : PyData.eqv (.str x) (.str (PySem.Str.ofString "end")) = false := by
  have hne : x ≠ PySem.Str.ofString "end" := fun e => by
    subst e
    exact absurd h (by unfold Low; decide +kernel)
  simp [PyData.eqv, hne]
section
variable {prog : Program} {w : World} {A : Around} {s : Shared} {base g : Heap} {outer : List Env} {mean : ExcName → Option Value} {mg mb : Str → Option Value}
  {L a : Addr} {m : Str → Option Value} {news : List (Addr × Obj)} {env : Env} {Q E : Value → Shared → Prop} {b r : Addr} {i : Int} {t : Tok} {n : Nat} {vs : List Value} {ns : List Int} {rs : List (Addr × Obj)} {gg : Obj → List (Addr × Obj) → List (Addr × Obj)}
theorem recordU_K {hpS : Heap} {gnS : Array GenState} {drS : Drawn} {tkS : Nat} {osS : OsState} {pl : Bool} (S : St w mean mg mb base) (B : Below A base outer g) (F : Fr g L hpS m) (N : News g L hpS news) (Rm : Room A 4) (hr : hpS.IsList r vs.toArray) (hrb : r ≠ b) (hi : IntsAre vs ns) (hn : ns.length ≤ 60) (h0 : 0 ≤ i)
    (U : UpdR b (listOf #[.ref r, .int i t] n) rs news gg)
    (k : Halt (∀ h' tk i' t' n' v d rs', Fr g L h' m → News g L h' (gg (listOf #[.ref r, .int i' t'] n') rs') → 0 ≤ i' → (∀ q ∈ rs, q ∈ rs') → RecD rs' v d → PyData.eqv d (.str (PySem.Str.ofString "end")) = false → PyData.depth d ≤ 8 → (∀ a o, (a, o) ∈ news → OffR a rs → OffR a rs') → Q v ⟨h', gnS, drS, tk, osS⟩)) (hf : env.frame = some L := by rfl) (hk : env.scope.kind = .function := by rfl) :
    wpAny (model prog w) (A.deeper env) (call (.ref 299) [.ref b, .bool pl]) Q E ⟨hpS, gnS, drS, tkS, osS⟩ := by
  cases pl with
  | false =>
    exact recordS_K S B F N Rm hr hrb hi hn h0 U.updF (fun h' tk i' t' n' x tx F' N' h0' hx5 hxl => k h' tk i' t' n' _ _ rs F' N' h0' (fun _ q => q) (RecD.str hxl) (low_end hxl) (by simp [PyData.depth]) fun _ _ _ z => z) hf hk
  | true =>
    refine recordL_K S B F N Rm hr hrb hi hn h0 U.updF (fun h' tk i' t' n' x tx r' t1' t2' rn' ta' tb' tc' F' N' h0' hx5 hxl b1' b2' b3' c1' c2' c3' => k h' tk i' t' n' (.ref r') _ ((r', listOf #[.ref t1', .ref t2'] rn') :: (t1', tupO [.int 0 ta', .int (x.length : Int) tb']) :: (t2', tupO [.int 5 tc', .str x tx]) :: rs) F' (fun q hq => ?_) h0' (fun q hq => .tail _ (.tail _ (.tail _ hq))) (RecD.row (.head _) (.tail _ (.head _)) (.tail _ (.tail _ (.head _))) hxl) rfl (by simp [PyData.depth, PyData.depthAll]) fun a o hm z => ?_) hf hk
    · rcases U.mem q hq with hq | hq
      · exact N' q (.tail _ (.tail _ (.tail _ hq)))
      · rcases List.mem_cons.mp hq with rfl | hq
        · exact N' _ (.head _)
        · rcases List.mem_cons.mp hq with rfl | hq
          · exact N' _ (.tail _ (.head _))
          · rcases List.mem_cons.mp hq with rfl | hq
            · exact N' _ (.tail _ (.tail _ (.head _)))
            · exact N' q (.tail _ (.tail _ (.tail _ (U.old q hq))))
    · exact OffR.cons (Ne.symm (AllNe.mem b1' _ hm)) (OffR.cons (Ne.symm (AllNe.mem b2' _ hm)) (OffR.cons (Ne.symm (AllNe.mem b3' _ hm)) z))
end
end
section
open PySem PySem.W PyProof.Rows PySem.Spec PySem.Calls PyProof.Rows.LCg PySem.SeqAt
inductive RecU (rs : List (Addr × Obj)) : Bool → Value → Int → Prop
  | S {x : PySem.Str} {tx : Tok} : x.length ≤ 5 → Low x → RecU rs false (.str x tx) (x.length : Int)
  | L {x : PySem.Str} {tx ta tb tc : Tok} {r t1 t2 : Addr} {rn : Nat} : (r, listOf #[.ref t1, .ref t2] rn) ∈ rs → (t1, tupO [.int 0 ta, .int (x.length : Int) tb]) ∈ rs → (t2, tupO [.int 5 tc, .str x tx]) ∈ rs → (@Ne Nat r t1) → (@Ne Nat r t2) → (@Ne Nat t1 t2) → x.length ≤ 5 → Low x → RecU rs true (.ref r) (1 + (x.length : Int))
theorem RecU.mono {rs rs' : List (Addr × Obj)} {pl : Bool} {v : Value} {z : Int} (h : RecU rs pl v z) (hs : ∀ q ∈ rs, q ∈ rs') : RecU rs' pl v z := by
  cases h with
  | S a b => exact .S a b
  | L a b c d e f g h => exact .L (hs _ a) (hs _ b) (hs _ c) d e f g h
inductive LaidU (len : Int) : Bool → Value → Int → Value → Prop
  | S {x : PySem.Str} {tx t0 : Tok} : LaidU len false (.str x tx) (x.length : Int) (.str (x ++ Txt.mul (PySem.Str.ofString " ") (len - (x.length : Int))) t0)
  | L {r : Addr} {z : Int} : LaidU len true (.ref r) z (.ref r)
theorem laid_rec {rs : List (Addr × Obj)} {pl : Bool} {v : Value} {z len : Int} (h : RecU rs pl v z) : ∃ d, d.depth ≤ 8 ∧ ∀ V, LaidU len pl v z V → RecD rs V d := by
  cases h with
  | @S x tx a b => exact ⟨.str (x ++ Txt.mul (PySem.Str.ofString " ") (len - (x.length : Int))), by simp [PyData.depth], fun V l => by cases l; exact RecD.str (b.app (low_mul low_sp))⟩
  | @L x tx ta tb tc r t1 t2 rn a b c d e f g h => exact ⟨.list [.tuple [.int 0, .int (x.length : Int)], .tuple [.int 5, .str x]], by simp [PyData.depth, PyData.depthAll], fun V l => by cases l; exact RecD.row a b c h⟩
section
variable {prog : Program} {w : World} {A : Around} {s : Shared} {base g : Heap} {outer : List Env} {mean : ExcName → Option Value} {mg mb : Str → Option Value}
  {L a : Addr} {m : Str → Option Value} {news : List (Addr × Obj)} {env : Env} {Q E : Value → Shared → Prop} {b r : Addr} {i : Int} {t : Tok} {n : Nat} {vs : List Value} {ns : List Int} {rs : List (Addr × Obj)} {gg : Obj → List (Addr × Obj) → List (Addr × Obj)}
theorem recordV_K {hpS : Heap} {gnS : Array GenState} {drS : Drawn} {tkS : Nat} {osS : OsState} {pl : Bool} (S : St w mean mg mb base) (B : Below A base outer g) (F : Fr g L hpS m) (N : News g L hpS news) (Rm : Room A 4) (hr : hpS.IsList r vs.toArray) (hrb : r ≠ b) (hi : IntsAre vs ns) (hn : ns.length ≤ 60) (h0 : 0 ≤ i)
    (U : UpdR b (listOf #[.ref r, .int i t] n) rs news gg)
    (k : Halt (∀ h' tk i' t' n' v z rs', Fr g L h' m → News g L h' (gg (listOf #[.ref r, .int i' t'] n') rs') → 0 ≤ i' → (∀ q ∈ rs, q ∈ rs') → RecU rs' pl v z → (∀ a o, (a, o) ∈ news → OffR a rs → OffR a rs') → Q v ⟨h', gnS, drS, tk, osS⟩)) (hf : env.frame = some L := by rfl) (hk : env.scope.kind = .function := by rfl) :
    wpAny (model prog w) (A.deeper env) (call (.ref 299) [.ref b, .bool pl]) Q E ⟨hpS, gnS, drS, tkS, osS⟩ := by
  cases pl with
  | false =>
    exact recordS_K S B F N Rm hr hrb hi hn h0 U.updF (fun h' tk i' t' n' x tx F' N' h0' hx5 hxl => k h' tk i' t' n' _ _ rs F' N' h0' (fun _ q => q) (.S hx5 hxl) fun _ _ _ z => z) hf hk
  | true =>
    refine recordL_K S B F N Rm hr hrb hi hn h0 U.updF (fun h' tk i' t' n' x tx r' t1' t2' rn' ta' tb' tc' F' N' h0' hx5 hxl b1' b2' b3' c1' c2' c3' => k h' tk i' t' n' (.ref r') _ ((r', listOf #[.ref t1', .ref t2'] rn') :: (t1', tupO [.int 0 ta', .int (x.length : Int) tb']) :: (t2', tupO [.int 5 tc', .str x tx]) :: rs) F' (fun q hq => ?_) h0' (fun q hq => .tail _ (.tail _ (.tail _ hq))) (.L (.head _) (.tail _ (.head _)) (.tail _ (.tail _ (.head _))) c1' c2' c3' hx5 hxl) fun a o hm z => ?_) hf hk
    · rcases U.mem q hq with hq | hq
      · exact N' q (.tail _ (.tail _ (.tail _ hq)))
      · rcases List.mem_cons.mp hq with rfl | hq
        · exact N' _ (.head _)
        · rcases List.mem_cons.mp hq with rfl | hq
          · exact N' _ (.tail _ (.head _))
          · rcases List.mem_cons.mp hq with rfl | hq
            · exact N' _ (.tail _ (.tail _ (.head _)))
            · exact N' q (.tail _ (.tail _ (.tail _ (U.old q hq))))
    · exact OffR.cons (Ne.symm (AllNe.mem b1' _ hm)) (OffR.cons (Ne.symm (AllNe.mem b2' _ hm)) (OffR.cons (Ne.symm (AllNe.mem b3' _ hm)) z))
end
theorem updF_self {d : Addr} {o : Obj} : ∀ {l : List (Addr × Obj)} {g : Obj → List (Addr × Obj)}, UpdF d o l g → g o = l
  | _, _, .head _ => rfl
  | _, _, .tail _ r => by show _ :: _ = _; rw [updF_self r]
section
variable {prog : Program} {w : World} {A : Around} {s : Shared} {base g : Heap} {outer : List Env} {mean : ExcName → Option Value} {mg mb : Str → Option Value}
  {L a : Addr} {m : Str → Option Value} {news : List (Addr × Obj)} {env : Env} {Q E : Value → Shared → Prop} {u du f df rc nb : Addr} {ui : UI} {fi : FI} {pa : Addr} {pn : Nat} {g₀ : Heap} {g1 : Obj → List (Addr × Obj)} {G2 : Obj → Obj → List (Addr × Obj)}
theorem heardWDU_K {hpS : Heap} {gnS : Array GenState} {drS : Drawn} {tkS : Nat} {osS : OsState} {pl : Bool} {v p : Value} {z : Int} {on : Obj} {kvs : List (Int × Value)} {k : Int} {tk : Tok} {rs : List (Addr × Obj)} (S : St w mean mg mb base) (B : Below A base outer g) (F : Fr g L hpS m) (N : News g L hpS news) (Rm : Room A 9) (T0 : KtsTurn (fs outer) g₀ g)
    (hp0 : (pa, listOf #[.int k tk, v] pn) ∈ news) (hv : RecU rs pl v z) (h1 : ∀ q ∈ (u, instObj 142 du) :: (du, unitD w ui f p) :: (f, instObj 100 df) :: (df, fileD w fi "DIRECT" rc nb) :: (nb, on) :: rs, q ∈ news) (hd : on.IsDictOf (PySem.intKind prog w) kvs) (lo : (nb == sysModules) = false) (hz : kvs.length ≤ 1000) (hl8 : fi.len ≤ 8) (D : Dist [(u, instObj 142 du), (du, unitD w ui f p), (f, instObj 100 df), (df, fileD w fi "DIRECT" rc nb), (nb, on)]) (ho : OffR u rs ∧ OffR du rs ∧ OffR f rs ∧ OffR df rs ∧ OffR nb rs) (Dp : AllNe pa [(u, instObj 142 du), (du, unitD w ui f p), (f, instObj 100 df), (df, fileD w fi "DIRECT" rc nb), (nb, on)]) (op : OffR pa rs)
    (U1 : UpdF du (unitD w ui f p) news g1) (U2 : ∀ o1, UpdF nb on (g1 o1) (G2 o1)) (hbd : du ≠ nb)
    (kk : Halt (∀ h' tk' g' (y : Bool) va p' o' kvs', KtsTurn (fs outer) g₀ g' → Fr g' L h' m → Below A base outer g' → News g' L h' (G2 (unitD w ui f p') o') → o'.IsDictOf (PySem.intKind prog w) kvs' → (y = true ↔ 0 < k ∧ z ≤ fi.len) → (y = true → va = .none ∧ ∃ V, LaidU fi.len pl v z V ∧ kvs' = stored kvs k V) → (y = false → (∃ c t, va = .int c t) ∧ kvs' = kvs) → Q va ⟨h', gnS, drS, tk', osS⟩))
    (hf : env.frame = some L := by rfl) (hk : env.scope.kind = .function := by rfl) :
    wpAny (model prog w) (A.deeper env) (call (.ref 306) [.ref 286, .ref u, .ref pa]) Q E ⟨hpS, gnS, drS, tkS, osS⟩ := by
  have h5 : ∀ q ∈ [(u, instObj 142 du), (du, unitD w ui f p), (f, instObj 100 df), (df, fileD w fi "DIRECT" rc nb), (nb, on)], q ∈ news := fun q hq => h1 q (by
    simp only [List.mem_cons, List.not_mem_nil, or_false] at hq ⊢
    rcases hq with h | h | h | h | h <;> simp [h])
  have e1 : G2 (unitD w ui f p) on = news := by rw [updF_self (U2 _), updF_self U1]
  cases hv with
  | @S x tx hx hl =>
    refine heardWDS_K S B F N Rm T0 hp0 h5 hd lo hz (by omega) hl8 D Dp U1 (U2 _) hbd (fun h' tk' c tz g' T' F' B' N' hno => ?_) (fun h' tk' g' o' V T' F' B' N' hyes hV hd' => ?_) hf hk
    · exact kk h' tk' g' false _ p on kvs T' F' B' (by rw [e1]; exact N') hd ⟨(fun q => nomatch q), fun q => absurd q hno⟩ (fun q => nomatch q) (fun _ => ⟨⟨c, tz, rfl⟩, rfl⟩)
    · obtain ⟨t0, rfl⟩ := hV
      exact kk h' tk' g' true _ _ o' _ T' F' B' N' hd' ⟨fun _ => hyes, fun _ => rfl⟩ (fun _ => ⟨rfl, _, .S, rfl⟩) (fun q => nomatch q)
  | @L x tx ta tb tc r t1 t2 rn q1 q2 q3 n1 n2 n3 hx hl =>
    obtain ⟨o1, o2, o3, o4, o5⟩ := ho
    refine heardWDL_K (df := df) (rc := rc) (r := r) (t1 := t1) (t2 := t2) (rn := rn) (ta := ta) (tb := tb) (tc := tc) (td := tx) (x := x) S B F N Rm T0 hp0 ?_ hd lo hz (by omega) hl8 ?_ ?_ U1 (U2 _) hbd (fun h' tk' c tz g' T' F' B' N' hno => ?_) (fun h' tk' g' o' V T' F' B' N' hyes hV hd' => ?_) hf hk
    · intro q hq
      simp only [List.mem_cons, List.not_mem_nil, or_false] at hq
      rcases hq with h | h | h | h | h | h | h | h
      · exact h5 q (by simp [h])
      · exact h5 q (by simp [h])
      · exact h5 q (by simp [h])
      · exact h5 q (by simp [h])
      · exact h5 q (by simp [h])
      · rw [h]; exact h1 _ (.tail _ (.tail _ (.tail _ (.tail _ (.tail _ q1)))))
      · rw [h]; exact h1 _ (.tail _ (.tail _ (.tail _ (.tail _ (.tail _ q2)))))
      · rw [h]; exact h1 _ (.tail _ (.tail _ (.tail _ (.tail _ (.tail _ q3)))))
    · obtain ⟨D1, D2, D3, D4, D5, _⟩ := D
      have rr : ∀ a, OffR a rs → (@Ne Nat r a) ∧ (@Ne Nat t1 a) ∧ (@Ne Nat t2 a) := fun a o => ⟨o.all _ q1, o.all _ q2, o.all _ q3⟩
      have r1 := rr _ o1; have r2 := rr _ o2; have r3 := rr _ o3; have r4 := rr _ o4; have r5 := rr _ o5
      simp only [Dist, AllNe, and_true] at D1 D2 D3 D4 D5 ⊢
      exact ⟨⟨D1.1, D1.2.1, D1.2.2.1, D1.2.2.2, r1.1, r1.2.1, r1.2.2⟩, ⟨D2.1, D2.2.1, D2.2.2, r2.1, r2.2.1, r2.2.2⟩, ⟨D3.1, D3.2, r3.1, r3.2.1, r3.2.2⟩, ⟨D4, r4.1, r4.2.1, r4.2.2⟩, ⟨r5.1, r5.2.1, r5.2.2⟩, ⟨Ne.symm n1, Ne.symm n2⟩, Ne.symm n3⟩
    · simp only [AllNe, and_true] at Dp ⊢
      exact ⟨Dp.1, Dp.2.1, Dp.2.2.1, Dp.2.2.2.1, Dp.2.2.2.2, op.all _ q1, op.all _ q2, op.all _ q3⟩
    · exact kk h' tk' g' false _ p on kvs T' F' B' (by rw [e1]; exact N') hd ⟨(fun q => nomatch q), fun q => absurd q hno⟩ (fun q => nomatch q) (fun _ => ⟨⟨c, tz, rfl⟩, rfl⟩)
    · subst hV
      exact kk h' tk' g' true _ _ o' _ T' F' B' N' hd' ⟨fun _ => hyes, fun _ => rfl⟩ (fun _ => ⟨rfl, _, .L, rfl⟩) (fun q => nomatch q)
end
end
section
open PySem PySem.W PyProof.Rows PySem.Spec PySem.Calls PyProof.Rows.LCg PySem.SeqAt
theorem offR_lt {d : Addr} {l rs : List (Addr × Obj)} (h : AllLt d l) (hs : ∀ q ∈ rs, q ∈ l) : OffR d rs := ⟨fun q hq => Nat.ne_of_lt (lt_at h (hs q hq))⟩
theorem ite_cut {M : Model} {A : Around} {E : Value → Shared → Prop} {s : Shared} {c : Prop} [Decidable c] {t1 t2 : Sem Value} {Q : Value → Shared → Prop} {P : Value → Prop}
    (a : if c then wpAny M A t1 (fun v s' => P v ∧ ∃ tk, s' = { s with toks := tk }) E s else wpAny M A t2 (fun v s' => P v ∧ ∃ tk, s' = { s with toks := tk }) E s)
    (b : ∀ v tk, P v → Q v { s with toks := tk }) : if c then wpAny M A t1 Q E s else wpAny M A t2 Q E s := by
  split
  · next h => rw [if_pos h] at a; exact wpAny_mono a (fun _ _ ⟨e1, tk, e2⟩ => by rw [e2]; exact b _ tk e1) fun _ _ x => x
  · next h => rw [if_neg h] at a; exact wpAny_mono a (fun _ _ ⟨e1, tk, e2⟩ => by rw [e2]; exact b _ tk e1) fun _ _ x => x
theorem isU {prog : Program} {w : World} {A : Around} {E : Value → Shared → Prop} {s : Shared} {va : Value} {y : Bool} {Q : Value → Shared → Prop} (a : y = true → va = .none) (b : y = false → ∃ c t, va = .int c t) (h : Q (.bool y) s) :
    wpAny (model prog w) A (compareOp .Is va .none) Q E s := by
  cases y with
  | true => rw [a rfl]; exact wpAny_pure h
  | false => obtain ⟨c, t, rfl⟩ := b rfl; exact wpAny_pure h
theorem news_consT {g h : Heap} {L : Addr} {rs led : List (Addr × Obj)} {q : Addr × Obj} (N : News g L h led) (hq : q ∈ rs) (hs : ∀ p ∈ rs, p ∈ led) : News g L h (q :: led) := fun p hp => by
  rcases List.mem_cons.mp hp with rfl | hp
  · exact N _ (hs _ hq)
  · exact N p hp
theorem allNe_off {I : Addr} : ∀ {rs : List (Addr × Obj)}, OffR I rs → AllNe I rs
  | [], _ => trivial
  | _ :: _, h => ⟨h.all _ (.head _), allNe_off ⟨fun q hq => h.all q (.tail _ hq)⟩⟩
theorem line_M45_1 : True := by
  k_with_none
  w_top off
  k_with "my:k_mem" => (first | exact m0_ | exact m1_ | exact m2_ | exact m3_ | exact m4_ | exact m5_ | exact m6_ | exact m7_ | (refine m8s_ ?_; k_mem))
  k_with "my:k_ne" => (((try dsimp only); first
  | exact AllNe.mem (by assumption) (_, _) (by k_mem)
  | exact Ne.symm (AllNe.mem (by assumption) (_, _) (by k_mem))
  | assumption
  | exact Ne.symm (by assumption)
  | exact Nat.ne_of_lt (lt_at (by assumption) (by k_mem))
  | exact Nat.ne_of_gt (lt_at (by assumption) (by k_mem))
  | (refine neN ?_; omega)))
  k_with "my_enter" => ((
  (case ho => k_is)
  (case hcd => k_is)
  (case hbind => exact BindsTo.of_eq rfl)
  (case hloc => exact locs rfl)
  (case hco => exact rfl)
  (case hgen => exact rfl)
  (case hk => exact rfl)
  (case hcell => decide)))
  k_with "my_dist" => (((simp only [Dist, AllNe, and_true]); (repeat' (refine And.intro ?_ ?_)); all_goals k_ne))
  k_with "my_bs" => (first | exact List.forall_mem_nil _ | (refine List.forall_mem_cons.mpr ⟨⟨⟨_, by k_mem⟩, ⟨by k_ne, by k_ne⟩⟩, ?_⟩; walk_at "my_bs"))
  k_with "my_bs0" => (first | exact List.forall_mem_nil _ | (refine List.forall_mem_cons.mpr ⟨⟨_, by k_mem⟩, ?_⟩; walk_at "my_bs0"))
  k_with "my_ro" => (first | exact List.forall_mem_nil _ | (refine List.forall_mem_cons.mpr ⟨?aZ, ?bZ⟩; (case aZ => first | exact fun _ => News.get (by k_asm) (by k_mem) | exact fun hn => absurd (by simp) hn); (case bZ => walk_at "my_ro")))
  k_with "exec Raise some none" => ((k_here; (with_reducible show wpAny _ _ (exec (Stmt.Raise (some (Expr.Call (Expr.Name (PySem.Str.ofString "IoFault") _) _ _ _)) none _) _) _ _ _); k_dflt (refine' raise_K (C := 51) ?XZ ?KZ ?bZ ?tZ ?hZ ?_; (case XZ => k_asm); (case KZ => k_is); (case bZ => rfl); (case tZ => rfl); (case hZ => first | exact rfl | exact Room.hand (by assumption)); k_whole)))
  k_with "exec Raise some none" => ((k_here; (with_reducible show wpAny _ _ (exec (Stmt.Raise (some (Expr.Call (Expr.Name (PySem.Str.ofString "EndFault") _) _ _ _)) none _) _) _ _ _); k_dflt (refine' raise_K (C := 70) ?XZ ?KZ ?bZ ?tZ ?hZ ?_; (case XZ => k_asm); (case KZ => k_is); (case bZ => rfl); (case tZ => rfl); (case hZ => first | exact rfl | exact Room.hand (by assumption)); k_whole)))
  k_with "call ref" => ((k_here; (with_reducible show wpAny _ _ (PySem.call (Value.ref 51) [_, _]) _ _ _); k_dflt (refine' mk51_K ?SZ ?BZ ?FZ ?NZ ?RZ ?_; (case SZ => assumption); (case BZ => assumption); (case FZ => k_asm); (case NZ => k_asm); (case RZ => exact Room.less (by assumption) (by decide)); k_whole); intro h' tk' e' t' d' tx' ty' F' N' l1 l2 l3; (try k_sweep)))
  k_with "call ref" => ((k_here; (with_reducible show wpAny _ _ (PySem.call (Value.ref 70) [_]) _ _ _); k_dflt (refine' mk70_K ?SZ ?BZ ?FZ ?NZ ?RZ ?_; (case SZ => assumption); (case BZ => assumption); (case FZ => k_asm); (case NZ => k_asm); (case RZ => exact Room.less (by assumption) (by decide)); k_whole); intro h' tk' e' t' d' tx' ty' tz' F' N' l1 l2 l3; (try k_sweep)))
  k_with "RaiseMade" => ((k_dflt (refine' raiseMade_ ?XZ ?hZ ?_; (case XZ => k_in); (case hZ => exact News.get (by k_asm) (by k_mem)))))
  k_with "my_enterC" => ((
  (case ho => k_is)
  (case hcd => k_is)
  (case hbind => exact BindsTo.of_eq rfl)
  (case hkind => exact rfl)
  (case hnd => decide +kernel)
  (case hco => exact rfl)
  (case hgen => exact rfl)
  (case hk => exact rfl)))
  k_with "my_sub" => (first | exact List.forall_mem_nil _ | (refine List.forall_mem_cons.mpr ⟨?aZ, ?bZ⟩; (case aZ => k_mem); (case bZ => walk_at "my_sub")) | exact fun _ hq => by (repeat (first | exact hq | refine List.Mem.tail _ ?_)))
  k_with "my:k_all" => (exact OffR.all (by assumption))
  k_with "my_offR" => (first | assumption | (refine OffR.cons ?aZ ?bZ; (case aZ => k_ne); (case bZ => walk_at "my_offR")) | exact OffR.nil | exact ⟨AllNe.mem (by (first | assumption | (refine AllNe.tail ?_; first | assumption | (refine AllNe.tail ?_; first | assumption | (refine AllNe.tail ?_; first | assumption | (refine AllNe.tail ?_; first | assumption | (refine AllNe.tail ?_; first | assumption | (refine AllNe.tail ?_; first | assumption | (refine AllNe.tail ?_; first | assumption | (refine AllNe.tail ?_; first | assumption | (refine AllNe.tail ?_; first | assumption | (refine AllNe.tail ?_; first | assumption | (refine AllNe.tail ?_; first | assumption | (refine AllNe.tail ?_; first | assumption | (refine AllNe.tail ?_; first | assumption | (refine AllNe.tail ?_; assumption))))))))))))))))⟩)
  k_with "compareOp NotEq" => ((k_here; k_dflt (first
  | (refine' cmpNe ?NZ ?sZ ?aZ ?bZ ?uZ ?_; (case NZ => k_asm); (case aZ => assumption); (case bZ => assumption); (case uZ => assumption); (case sZ => walk_at "my_sub"))
  | (refine' cmpNeAny ?NZ ?sZ ?aZ ?bZ ?uZ (halt ?_); (case NZ => k_asm); (case aZ => assumption); (case bZ => assumption); (case uZ => assumption); (case sZ => walk_at "my_sub")))))
  k_with "compareOp NotEq ref ref" => ((k_here; k_dflt (refine' cmpNe ?NZ ?sZ ?aZ ?bZ ?uZ ?_; (case NZ => k_asm); (case aZ => assumption); (case bZ => assumption); (case uZ => assumption); (case sZ => walk_at "my_sub"))))
  k_with "compareOp NotEq str str" => ((k_here; k_dflt (refine' cmpNe (rs := []) ?NZ ?sZ ?aZ ?bZ ?uZ ?_; (case NZ => k_asm); (case aZ => exact RecD.str (Low.app (by assumption) (low_mul low_sp))); (case bZ => exact RecD.str (Low.app (by assumption) (low_mul low_sp))); (case uZ => assumption); (case sZ => walk_at "my_sub"))))
  k_with "subscriptTail" => ((k_here; (with_reducible show wpAny _ _ (subscriptTail _ _ (Value.ref _) (Value.int _ _)) _ _ _); k_dflt (refine' listAt ?NZ ?mZ ?aZ ?bZ ?vZ ?_; (case NZ => k_asm); (case mZ => k_mem); (case vZ => assumption); (case aZ => omega); (case bZ => omega))))
  k_with "my_mems" => (first | exact List.forall_mem_nil _ | (refine List.forall_mem_cons.mpr ⟨?aZ, ?bZ⟩; (case aZ => k_mem); (case bZ => walk_at "my_mems")))
  k_with "my_allne" => (((simp only [AllNe, and_true]); (repeat' (refine And.intro ?_ ?_)); all_goals k_ne))
  k_with "eval ListComp" => (refine halt ?_)
  k_with "exec If Compare" => (((with_reducible show wpAny _ _ (exec (Stmt.If (Expr.Compare (Expr.Name _ _) [CmpOp.NotEq] [Expr.BoolOp _ _ _] _) _ _ _) _) _ _ _); refine halt ?_))
  k_with "exec For" => (refine halt ?_)
  k_with "exec For Name Call cons nil" => (refine halt ?_)
  k_with "call ref" => ((k_here; (with_reducible show wpAny _ _ (PySem.call (Value.ref 294) [Value.ref _, Value.int _ _]) _ _ _); k_dflt (refine' pluck_K ?SZ ?BZ ?FZ ?NZ ?RZ ?hrZ ?rbZ ?hiZ ?hnZ ?h0Z ?hmZ ?hm2Z ?UZ ?_; (case SZ => assumption); (case BZ => assumption); (case FZ => k_asm); (case NZ => k_asm); (case RZ => exact Room.less (by assumption) (by decide)); (case hrZ => exact isList_keep (by k_asm) (by assumption)); (case UZ => k_updF); (case rbZ => k_ne); (case hiZ => assumption); (case hnZ => assumption); (case h0Z => assumption); (case hmZ => first | decide | omega); (case hm2Z => first | decide | omega); k_whole; intro h' tk' t' v' tv' n' F' N' h0' hv0' hv1'; (try dsimp only at N'); (try k_sweep))))
  k_with "call ref" => ((k_here; (with_reducible show wpAny _ _ (PySem.call (Value.ref 311) [Value.ref _]) _ _ _); k_dflt (refine' numbered_K ?SZ ?BZ ?FZ ?NZ ?RZ ?T0Z ?h1Z ?hdZ ?loZ ?DZ ?UZ ?_; (case SZ => assumption); (case hdZ => assumption); (case loZ => assumption); (case BZ => assumption); (case FZ => k_asm); (case NZ => k_asm); (case RZ => exact Room.less (by assumption) (by decide)); (case T0Z => assumption); (case h1Z => walk_at "my_mems"); (case DZ => walk_at "my_dist"); (case UZ => k_updF))))
  k_with "my_updR" => (first | (refine' UpdR.head ?aaZ ?bbZ; (case aaZ => k_all); (case bbZ => walk_at "my_spR")) | (refine' UpdR.tail ?aaZ ?bbZ; (case aaZ => k_ne); (case bbZ => walk_at "my_updR")))
  k_with "my_spR" => (first | (refine' SpR.cons ?_; walk_at "my_spR") | exact SpR.nil)
  k_with "call ref" => ((k_here; (with_reducible show wpAny _ _ (PySem.call (Value.ref 299) [Value.ref _, Value.bool _]) _ _ _); k_dflt (refine' recordV_K ?SZ ?BZ ?FZ ?NZ ?RZ ?hrZ ?rbZ ?hiZ ?hnZ ?h0Z ?UZ ?_; (case SZ => assumption); (case BZ => assumption); (case FZ => k_asm); (case NZ => k_asm); (case RZ => exact Room.less (by assumption) (by decide)); (case hrZ => exact isList_keep (by k_asm) (by assumption)); (case UZ => walk_at "my_updR"); (case rbZ => k_ne); (case hiZ => assumption); (case hnZ => assumption); (case h0Z => assumption))))
  k_with "my_subR" => (exact fun _ hq => by ((repeat refine List.Mem.tail _ ?_); exact hq))
  k_with "my_memsR" => (first | (refine List.forall_mem_cons.mpr ⟨?aZ, ?bZ⟩; (case aZ => k_mem); (case bZ => walk_at "my_memsR")) | exact fun _ hq => by ((repeat refine List.Mem.tail _ ?_); exact hq))
  k_with "call ref" => ((k_here; (with_reducible show wpAny _ _ (PySem.call (Value.ref 306) [Value.ref 286, Value.ref _, Value.ref _]) _ _ _); k_dflt (refine' heardWDU_K ?SZ ?BZ ?FZ ?NZ ?RZ ?T0Z ?p0Z ?hvZ ?h1Z ?hdZ ?loZ ?hzZ ?hl8Z ?DZ ?hoZ ?DpZ ?opZ ?U1Z ?U2Z ?hbdZ ?_; (case SZ => assumption); (case hdZ => assumption); (case loZ => assumption); (case BZ => assumption); (case FZ => k_asm); (case NZ => k_asm); (case RZ => exact Room.less (by assumption) (by decide)); (case T0Z => assumption); (case p0Z => k_mem); (case hvZ => assumption); (case h1Z => walk_at "my_memsR"); (case hzZ => omega); (case hl8Z => assumption); (case DZ => walk_at "my_dist"); (case hoZ => exact ⟨by assumption, by assumption, by assumption, by assumption, by assumption⟩); (case DpZ => walk_at "my_allne"); (case opZ => exact offR_lt (by assumption) (by walk_at "my_subR")); (case U1Z => k_updF); (case U2Z => (intro _; (try dsimp only); k_updF)); (case hbdZ => k_ne))))
  k_with "ite" => (((first
  | (with_reducible show (if _ then wpAny _ _ (eval (Expr.BinOp _ _ _ _) _) _ _ _ else wpAny _ _ (eval (Expr.Call _ _ _ _) _) _ _ _))
  | (with_reducible show (if _ then wpAny _ _ (eval (Expr.Name _ _) _) _ _ _ else wpAny _ _ (eval (Expr.BinOp _ _ _ _) _) _ _ _))); refine halt ?_))
  k_with "compareOp Is" => ((k_here; k_dflt (refine' isU ?aZ ?bZ ?_; (case aZ => assumption); (case bZ => assumption))))
  trivial
section
variable {prog : Program} {w : World} {A : Around} {s : Shared} {base : Heap} {outer : List Env} {mean : ExcName → Option Value} {mg mb : Str → Option Value}
  {R : Result → Shared → Prop} {u du f df rc nb : Addr} {ui : UI} {fi : FI} {p : Value} {on : Obj} {b r : Addr} {i : Int} {t : Tok} {n : Nat} {vs : List Value} {ns : List Int} {tl : Tok}
noncomputable def directU_s : (Rq : Program → World → Shared → Heap → List Env → (ExcName → Option Value) → (Str → Option Value) → (Str → Option Value) → (Result → Shared → Prop) → Addr → Addr → Addr → Addr → Addr → Addr → UI → FI → Value → Obj → Addr → Addr → Int → Tok → Nat → List Value → List Int → Tok → Bool → Nat → Option (List Code) → Nat → Heap → Addr → Heap → Nat → Obj → Obj → Obj → Obj → Prop) ×' ((∀ (prog : Program) (w : World) (s : Shared) (base : Heap) (outer : List Env) (mean : ExcName → Option Value) (mg : Str → Option Value) (mb : Str → Option Value) (R : Result → Shared → Prop) (u : Addr) (du : Addr) (f : Addr) (df : Addr) (rc : Addr) (nb : Addr) (ui : UI) (fi : FI) (p : Value) (on : Obj) (b : Addr) (r : Addr) (i : Int) (t : Tok) (n : Nat) (vs : List Value) (ns : List Int) (tl : Tok) (pl : Bool) (dp : Nat) (gd : Option (List Code)) (un : Nat) (g : Heap) (L' : Addr) (h₁ : Heap) (tk₁ : Nat) (c1 : Obj) (c2 : Obj) (c3 : Obj) (c4 : Obj), Rq prog w s base outer mean mg mb R u du f df rc nb ui fi p on b r i t n vs ns tl pl dp gd un g L' h₁ tk₁ c1 c2 c3 c4) → ∀ (A : Around) (prog : Program) (w : World) (s : Shared) (base : Heap) (outer : List Env) (mean : ExcName → Option Value) (mg : Str → Option Value) (mb : Str → Option Value) (R : Result → Shared → Prop) (u : Addr) (du : Addr) (f : Addr) (df : Addr) (rc : Addr) (nb : Addr) (ui : UI) (fi : FI) (p : Value) (on : Obj) (b : Addr) (r : Addr) (i : Int) (t : Tok) (n : Nat) (vs : List Value) (ns : List Int) (tl : Tok) (pl : Bool) (S : St w mean mg mb base) (B : Below A base outer s.heap) (Rm : Room A 14) (H : Has base outer s.heap [(u, instObj 142 du), (du, unitD w ui f p), (f, instObj 100 df), (df, fileD w fi "DIRECT" rc nb), (nb, on), (b, listOf #[.ref r, .int i t] n)]) (D : Dist [(u, instObj 142 du), (du, unitD w ui f p), (f, instObj 100 df), (df, fileD w fi "DIRECT" rc nb), (nb, on), (b, listOf #[.ref r, .int i t] n)]) (hd : on.IsDictOf (intKind prog w) []) (lo : (nb == sysModules) = false) (hl0 : 2 ≤ fi.len) (hl8 : fi.len ≤ 8) (hr : s.heap.IsList r vs.toArray) (hrn : AllNe r [(u, instObj 142 du), (du, unitD w ui f p), (f, instObj 100 df), (df, fileD w fi "DIRECT" rc nb), (nb, on), (b, listOf #[.ref r, .int i t] n)]) (hi : IntsAre vs ns) (hn : ns.length ≤ 60) (h0 : 0 ≤ i) (k : ∀ h' tk p' o' i' t' n' kvs rs, Step (fs outer) [du, nb, b] s.heap h' → h'.get? du = some (unitD w ui f p') → h'.get? nb = some o' → o'.IsDictOf (intKind prog w) kvs → kvs.length ≤ 10 → h'.get? b = some (listOf #[.ref r, .int i' t'] n') → 0 ≤ i' →
      (∀ q ∈ rs, h'.get? q.1 = some q.2 ∧ s.heap.get? q.1 = none) → KV rs kvs → R (.ok (.ret (.bool true))) { s with heap := h', toks := tk }), codeAny (model prog w) A (.call (.ref 316) ⟨[.ref b, .ref u, .bool pl, .int fi.len tl], []⟩) R s) := by
  refine ⟨?Rq, fun kHq A prog w s base outer mean mg mb R u du f df rc nb ui fi p on b r i t n vs ns tl pl S B Rm H D hd lo hl0 hl8 hr hrn hi hn h0 k => ?pfq⟩
  case pfq =>
    have hrb : r ∉ ([(u, instObj 142 du), (du, unitD w ui f p), (f, instObj 100 df), (df, fileD w fi "DIRECT" rc nb), (nb, on), (b, listOf #[.ref r, .int i t] n)] : List (Addr × Obj)).map (·.1) := fun q => by
      obtain ⟨y, hy, e⟩ := List.mem_map.mp q
      exact AllNe.mem hrn y hy e
    obtain ⟨ha, dp, fr, gd, un⟩ := A
    obtain rfl : ha = none := Rm.han
    obtain rfl : fr = some outer := B.stack
    refine' enterC [(u, instObj 142 du), (du, unitD w ui f p), (f, instObj 100 df), (df, fileD w fi "DIRECT" rc nb), (nb, on), (b, listOf #[.ref r, .int i t] n)] S B Rm.d H ?ho ?hcd ?hbind ?hkind ?hnd ?h ?hco ?hgen ?hk
    walk_at "my_enterC"
    intro g L' h₁ tk₁ cells F N Y Yn B' X T hold hg hL
    have T0 : KtsTurn (fs outer) g g := KtsTurn.refl
    obtain ⟨D0, D1, D2, D3, D4, D5, _⟩ := D
    have hrg : g.IsList r vs.toArray := let ⟨o, ho, z⟩ := hr; ⟨o, hold r o ho hrb, z⟩
    clear hr
    have hY := CellsAre.four Y
    obtain ⟨c1, c2, c3, c4, hE', e1, e2, e3, e4⟩ := hY
    subst hE'
    clear Y
    (try simp only [List.cons_append, List.nil_append] at N)
    (try simp only [List.forall_mem_cons, List.not_mem_nil, false_implies, implies_true, and_true] at Yn)
    obtain ⟨Y1, Y2, Y3, Y4⟩ := Yn
    revert Y4; revert Y3; revert Y2; revert Y1; revert e4; revert e3; revert e2; revert e1; revert hrg; revert D5; revert D4; revert D3; revert D2; revert D1; revert D0; revert T0; revert hL; revert hg; revert hold; revert T; revert X; revert B'; revert N; revert F; revert hrb; revert k; revert h0; revert hn; revert hi; revert hrn; revert hl8; revert hl0; revert lo; revert hd; revert H; revert Rm; revert B; revert S
    exact kHq prog w s base outer mean mg mb R u du f df rc nb ui fi p on b r i t n vs ns tl pl dp gd un g L' h₁ tk₁ c1 c2 c3 c4
noncomputable def directU_q (x : ((((((Program × World) × Shared) × (Heap × List Env)) × ((((ExcName → Option Value) × (Str → Option Value)) × (Str → Option Value)) × ((Result → Shared → Prop) × Addr))) × ((((Addr × Addr) × Addr) × (Addr × Addr)) × (((UI × FI) × Value) × (Obj × Addr)))) × (((((Addr × Int) × Tok) × (Nat × List Value)) × (((List Int × Tok) × Bool) × (Nat × Option (List Code)))) × ((((Nat × Heap) × Addr) × (Heap × Nat)) × ((Obj × Obj) × (Obj × Obj)))))) : Prop := directU_s.1 x.1.1.1.1.1.1 x.1.1.1.1.1.2 x.1.1.1.1.2 x.1.1.1.2.1 x.1.1.1.2.2 x.1.1.2.1.1.1 x.1.1.2.1.1.2 x.1.1.2.1.2 x.1.1.2.2.1 x.1.1.2.2.2 x.1.2.1.1.1.1 x.1.2.1.1.1.2 x.1.2.1.1.2 x.1.2.1.2.1 x.1.2.1.2.2 x.1.2.2.1.1.1 x.1.2.2.1.1.2 x.1.2.2.1.2 x.1.2.2.2.1 x.1.2.2.2.2 x.2.1.1.1.1.1 x.2.1.1.1.1.2 x.2.1.1.1.2 x.2.1.1.2.1 x.2.1.1.2.2 x.2.1.2.1.1.1 x.2.1.2.1.1.2 x.2.1.2.1.2 x.2.1.2.2.1 x.2.1.2.2.2 x.2.2.1.1.1.1 x.2.2.1.1.1.2 x.2.2.1.1.2 x.2.2.1.2.1 x.2.2.1.2.2 x.2.2.2.1.1 x.2.2.2.1.2 x.2.2.2.2.1 x.2.2.2.2.2
noncomputable def directU_c := @Classical.epsilon _ ⟨((((((PySem.Challenge.pw_sa0211_01, aWorld 1), {}), ({}, [])), (((fun _ => none, fun _ => none), fun _ => none), (fun _ _ => True, 0))), ((((0, 0), 0), (0, 0)), (((⟨0, 0, 0, 0, .none, .none⟩, ⟨0, 0, 0, 0, 0, 0, 0, 0, 0, 0, Str.ofString "", Str.ofString "", 0⟩), .none), (instObj 0 0, 0)))), (((((0, 0), 0), (0, [])), ((([], 0), true), (0, none))), ((((0, {}), 0), ({}, 0)), ((instObj 0 0, instObj 0 0), (instObj 0 0, instObj 0 0)))))⟩ fun x => ¬ directU_q x
noncomputable def directUT_s : (Rq : Program → World → Shared → Heap → List Env → (ExcName → Option Value) → (Str → Option Value) → (Str → Option Value) → (Result → Shared → Prop) → Addr → Addr → Addr → Addr → Addr → Addr → UI → FI → Value → Obj → Addr → Addr → Int → Tok → Nat → List Value → List Int → Tok → Bool → Nat → Option (List Code) → Nat → Heap → Addr → Nat → (Str → Option Value) → Heap → Addr → Obj → Heap → Nat → Obj → Obj → Obj → Obj → Option Value → Option Value → Option Value → Option Value → Value → Obj → Int → Tok → Nat → List (Int × Value) → List (Addr × Obj) → Tok → Int → Prop) ×' ((∀ (prog : Program) (w : World) (s : Shared) (base : Heap) (outer : List Env) (mean : ExcName → Option Value) (mg : Str → Option Value) (mb : Str → Option Value) (R : Result → Shared → Prop) (u : Addr) (du : Addr) (f : Addr) (df : Addr) (rc : Addr) (nb : Addr) (ui : UI) (fi : FI) (p : Value) (on : Obj) (b : Addr) (r : Addr) (i : Int) (t : Tok) (n : Nat) (vs : List Value) (ns : List Int) (tl : Tok) (pl : Bool) (dp : Nat) (gd : Option (List Code)) (un : Nat) (g : Heap) (L' : Addr) (j : Nat) (m₁ : Str → Option Value) (g2 : Heap) (I : Addr) (oI : Obj) (h : Heap) (tk : Nat) (c1 : Obj) (c2 : Obj) (c3 : Obj) (c4 : Obj) (w1 : Option Value) (w2 : Option Value) (w3 : Option Value) (w4 : Option Value) (pJ : Value) (onJ : Obj) (iJ : Int) (tJ : Tok) (nJ : Nat) (kvs : List (Int × Value)) (rs : List (Addr × Obj)) (tv : Tok) (v' : Int), Rq prog w s base outer mean mg mb R u du f df rc nb ui fi p on b r i t n vs ns tl pl dp gd un g L' j m₁ g2 I oI h tk c1 c2 c3 c4 w1 w2 w3 w4 pJ onJ iJ tJ nJ kvs rs tv v') → directU_q directU_c) := by
  refine ⟨?Rq, fun kHc => ?pfq⟩
  case pfq =>
    refine (?fq : ∀ (prog : Program) (w : World) (s : Shared) (base : Heap) (outer : List Env) (mean : ExcName → Option Value) (mg : Str → Option Value) (mb : Str → Option Value) (R : Result → Shared → Prop) (u : Addr) (du : Addr) (f : Addr) (df : Addr) (rc : Addr) (nb : Addr) (ui : UI) (fi : FI) (p : Value) (on : Obj) (b : Addr) (r : Addr) (i : Int) (t : Tok) (n : Nat) (vs : List Value) (ns : List Int) (tl : Tok) (pl : Bool) (dp : Nat) (gd : Option (List Code)) (un : Nat) (g : Heap) (L' : Addr) (h₁ : Heap) (tk₁ : Nat) (c1 : Obj) (c2 : Obj) (c3 : Obj) (c4 : Obj), directU_s.1 prog w s base outer mean mg mb R u du f df rc nb ui fi p on b r i t n vs ns tl pl dp gd un g L' h₁ tk₁ c1 c2 c3 c4) _ _ _ _ _ _ _ _ _ _ _ _ _ _ _ _ _ _ _ _ _ _ _ _ _ _ _ _ _ _ _ _ _ _ _ _ _ _ _ 
    intro prog w s base outer mean mg mb R u du f df rc nb ui fi p on b r i t n vs ns tl pl dp gd un g L' h₁ tk₁ c1 c2 c3 c4 S B Rm H hd lo hl0 hl8 hrn hi hn h0 k hrb F N B' X T hold hg hL T0 D0 D1 D2 D3 D4 D5 hrg e1 e2 e3 e4 Y1 Y2 Y3 Y4
    (try dsimp only)
    try k_fold
    k_steps
    unfold Halt
    (rename Fr _ _ _ _ => F1)
    refine For_M B' F1 (by rfl) (by rfl) (by rfl) ?_
    k_steps
    (rename IsRange _ _ _ _ _ _ _ _ => hR)
    (rename Fr _ _ _ _ => F2)
    (rename News _ _ _ _ => N2)
    refine ⟨_, _, _, fun j m₁ gq nw => ∃ c1 c2 c3 c4 w1 w2 w3 w4 p on i' t n kvs rs,
      nw = (L' + 1 + 1 + 1 + 1, c1) :: (L' + 1 + 1 + 1, c2) :: (L' + 1 + 1, c3) :: (L' + 1, c4) :: (u, instObj 142 du) :: (du, unitD w ui f p) :: (f, instObj 100 df) :: (df, fileD w fi "DIRECT" rc nb) :: (nb, on) :: (b, listOf #[.ref r, .int i' t] n) :: rs ∧
      (c1.data = .cell w1 ∧ c2.data = .cell w2 ∧ c3.data = .cell w3 ∧ c4.data = .cell w4) ∧ on.IsDictOf (intKind prog w) kvs ∧ kvs.length ≤ j ∧ 0 ≤ i' ∧ KV rs kvs ∧
      (m₁ "bush" = some (.ref b) ∧ m₁ "unit" = some (.ref u) ∧ m₁ "is_plain" = some (.bool pl) ∧ m₁ "length" = some (.int fi.len tl)) ∧
      (OffR (L' + 1 + 1 + 1 + 1) rs ∧ OffR (L' + 1 + 1 + 1) rs ∧ OffR (L' + 1 + 1) rs ∧ OffR (L' + 1) rs ∧ OffR u rs ∧ OffR du rs ∧ OffR f rs ∧ OffR df rs ∧ OffR nb rs ∧ OffR b rs), _, rfl, F2, B', N2,
      ⟨c1, c2, c3, c4, _, _, _, _, p, on, i + 1, _, _, [], [], rfl, ⟨e1, e2, e3, e4⟩, hd, Nat.le_refl _, by omega, KV.nil, ⟨rfl, rfl, rfl, rfl⟩, ⟨.nil, .nil, .nil, .nil, .nil, .nil, .nil, .nil, .nil, .nil⟩⟩,
      .inl ⟨_, 0, _, _, _, _, rfl, hR, (range_facts (by omega) (by omega)).1, (range_facts (by omega) (by omega)).2, rfl⟩, ?turn, ?done⟩
    case turn =>
      clear hR F2 N2 e1 e2 e3 e4 hd
      intro j m₁ g2 nw v I oI h tk hj hP T2 F2 B2 N2 oI1 hJ
      obtain ⟨c1, c2, c3, c4, w1, w2, w3, w4, pJ, onJ, iJ, tJ, nJ, kvs, rs, rfl, ⟨e1, e2, e3, e4⟩, hd, hkl, h0', hKV, ⟨m1, m2, m3, m4⟩, ⟨a1, a2, a3, a4, a5, a6, a7, a8, a9, a10⟩⟩ := hJ
      obtain ⟨tv, rfl⟩ := hP
      have hm : (fun y => if y = PySem.Str.ofString "turn" then some (Value.int (0 + (j : Int)) tv) else m₁ y) = fun y => if y = PySem.Str.ofString "bush" then some (.ref b) else if y = PySem.Str.ofString "unit" then some (.ref u) else if y = PySem.Str.ofString "is_plain" then some (.bool pl) else if y = PySem.Str.ofString "length" then some (.int fi.len tl) else (if y = PySem.Str.ofString "turn" then some (Value.int (0 + (j : Int)) tv) else m₁ y) := by
        funext y
        by_cases y1 : y = PySem.Str.ofString "bush"
        · subst y1; exact m1
        · by_cases y2 : y = PySem.Str.ofString "unit"
          · subst y2; exact m2
          · by_cases y3 : y = PySem.Str.ofString "is_plain"
            · subst y3; exact m3
            · by_cases y4 : y = PySem.Str.ofString "length"
              · subst y4; exact m4
              · simp only [y1, y2, y3, y4, if_false]
      rw [hm] at F2
      clear hm m1 m2 m3 m4
      have X2 := S.X.keeps B2.stays
      have TT2 := S.T.keeps B2.stays
      have hrg2 := isList_turn T2 hrg
      have hu : un + 3 + 64 < cLine := by
        have := Rm.uni
        dsimp only at this
        omega
      (try dsimp only)
      revert hu; revert hrg2; revert TT2; revert X2; revert a10; revert a9; revert a8; revert a7; revert a6; revert a5; revert a4; revert a3; revert a2; revert a1; revert hKV; revert h0'; revert hkl; revert hd; revert e4; revert e3; revert e2; revert e1; revert oI1; revert N2; revert B2; revert F2; revert T2; revert hj; revert hL; revert hg; revert hn; revert hi; revert hrn; revert hl8; revert hl0; revert lo; revert hv1'; revert hv0'; revert Y4; revert Y3; revert Y2; revert Y1; revert D5; revert D4; revert D3; revert D2; revert D1; revert D0; revert T0; revert hrg; revert Rm; revert S
      exact kHc prog w s base outer mean mg mb R u du f df rc nb ui fi p on b r i t n vs ns tl pl dp gd un g L' j m₁ g2 I oI h tk c1 c2 c3 c4 w1 w2 w3 w4 pJ onJ iJ tJ nJ kvs rs tv v'
    case done =>
      intro h tk m₁ g2 nw T2 F2 B2 N2 hJ
      obtain ⟨c1, c2, c3, c4, w1, w2, w3, w4, p, on, i', t, n, kvs, rs, rfl, ⟨e1, e2, e3, e4⟩, hd, hkl, h0', hKV, ⟨m1, m2, m3, m4⟩, ⟨a1, a2, a3, a4, a5, a6, a7, a8, a9, a10⟩⟩ := hJ
      have X2 := S.X.keeps B2.stays
      have TT2 := S.T.keeps B2.stays
      clear hR
      (try dsimp only)
      k_steps
      (try show R (.ok (.ret _)) _)
      refine k _ _ p on i' t n kvs rs (step_cut (end1 hold T2 F2) H ?_) (N2.get (by k_mem)) (N2.get (by k_mem)) hd (by omega) (N2.get (by k_mem)) h0' (fun q hq => ?_) hKV
      · walk_at "my_ro"
      · have hm := N2 q (.tail _ (.tail _ (.tail _ (.tail _ (.tail _ (.tail _ (.tail _ (.tail _ (.tail _ (.tail _ hq))))))))))
        exact ⟨hm.1, fresh_in1 hold T2 N2 (.tail _ (.tail _ (.tail _ (.tail _ (.tail _ (.tail _ (.tail _ (.tail _ (.tail _ (.tail _ hq)))))))))) (List.forall_mem_cons.mpr ⟨Ne.symm (a5.all q hq), List.forall_mem_cons.mpr ⟨Ne.symm (a6.all q hq), List.forall_mem_cons.mpr ⟨Ne.symm (a7.all q hq), List.forall_mem_cons.mpr ⟨Ne.symm (a8.all q hq), List.forall_mem_cons.mpr ⟨Ne.symm (a9.all q hq), List.forall_mem_cons.mpr ⟨Ne.symm (a10.all q hq), fun _ h => nomatch h⟩⟩⟩⟩⟩⟩)⟩
noncomputable def directUT_q (x : ((((((Program × World) × (Shared × Heap)) × ((List Env × (ExcName → Option Value)) × ((Str → Option Value) × (Str → Option Value)))) × ((((Result → Shared → Prop) × Addr) × (Addr × Addr)) × ((Addr × Addr) × Addr))) × ((((UI × FI) × (Value × Obj)) × ((Addr × Addr) × Int)) × (((Tok × Nat) × (List Value × List Int)) × ((Tok × Bool) × Nat)))) × (((((Option (List Code) × Nat) × (Heap × Addr)) × ((Nat × (Str → Option Value)) × Heap)) × (((Addr × Obj) × (Heap × Nat)) × ((Obj × Obj) × Obj))) × ((((Obj × Option Value) × (Option Value × Option Value)) × ((Option Value × Value) × Obj)) × (((Int × Tok) × (Nat × List (Int × Value))) × ((List (Addr × Obj) × Tok) × Int)))))) : Prop := directUT_s.1 x.1.1.1.1.1.1 x.1.1.1.1.1.2 x.1.1.1.1.2.1 x.1.1.1.1.2.2 x.1.1.1.2.1.1 x.1.1.1.2.1.2 x.1.1.1.2.2.1 x.1.1.1.2.2.2 x.1.1.2.1.1.1 x.1.1.2.1.1.2 x.1.1.2.1.2.1 x.1.1.2.1.2.2 x.1.1.2.2.1.1 x.1.1.2.2.1.2 x.1.1.2.2.2 x.1.2.1.1.1.1 x.1.2.1.1.1.2 x.1.2.1.1.2.1 x.1.2.1.1.2.2 x.1.2.1.2.1.1 x.1.2.1.2.1.2 x.1.2.1.2.2 x.1.2.2.1.1.1 x.1.2.2.1.1.2 x.1.2.2.1.2.1 x.1.2.2.1.2.2 x.1.2.2.2.1.1 x.1.2.2.2.1.2 x.1.2.2.2.2 x.2.1.1.1.1.1 x.2.1.1.1.1.2 x.2.1.1.1.2.1 x.2.1.1.1.2.2 x.2.1.1.2.1.1 x.2.1.1.2.1.2 x.2.1.1.2.2 x.2.1.2.1.1.1 x.2.1.2.1.1.2 x.2.1.2.1.2.1 x.2.1.2.1.2.2 x.2.1.2.2.1.1 x.2.1.2.2.1.2 x.2.1.2.2.2 x.2.2.1.1.1.1 x.2.2.1.1.1.2 x.2.2.1.1.2.1 x.2.2.1.1.2.2 x.2.2.1.2.1.1 x.2.2.1.2.1.2 x.2.2.1.2.2 x.2.2.2.1.1.1 x.2.2.2.1.1.2 x.2.2.2.1.2.1 x.2.2.2.1.2.2 x.2.2.2.2.1.1 x.2.2.2.2.1.2 x.2.2.2.2.2
noncomputable def directUT_c := @Classical.epsilon _ ⟨((((((PySem.Challenge.pw_sa0211_01, aWorld 1), ({}, {})), (([], fun _ => none), (fun _ => none, fun _ => none))), (((fun _ _ => True, 0), (0, 0)), ((0, 0), 0))), ((((⟨0, 0, 0, 0, .none, .none⟩, ⟨0, 0, 0, 0, 0, 0, 0, 0, 0, 0, Str.ofString "", Str.ofString "", 0⟩), (.none, instObj 0 0)), ((0, 0), 0)), (((0, 0), ([], [])), ((0, true), 0)))), (((((none, 0), ({}, 0)), ((0, fun _ => none), {})), (((0, instObj 0 0), ({}, 0)), ((instObj 0 0, instObj 0 0), instObj 0 0))), ((((instObj 0 0, none), (none, none)), ((none, .none), instObj 0 0)), (((0, 0), (0, [])), (([], 0), 0)))))⟩ fun x => ¬ directUT_q x
theorem directUT_k : directUT_q directUT_c := by
  refine (?fq : ∀ (prog : Program) (w : World) (s : Shared) (base : Heap) (outer : List Env) (mean : ExcName → Option Value) (mg : Str → Option Value) (mb : Str → Option Value) (R : Result → Shared → Prop) (u : Addr) (du : Addr) (f : Addr) (df : Addr) (rc : Addr) (nb : Addr) (ui : UI) (fi : FI) (p : Value) (on : Obj) (b : Addr) (r : Addr) (i : Int) (t : Tok) (n : Nat) (vs : List Value) (ns : List Int) (tl : Tok) (pl : Bool) (dp : Nat) (gd : Option (List Code)) (un : Nat) (g : Heap) (L' : Addr) (j : Nat) (m₁ : Str → Option Value) (g2 : Heap) (I : Addr) (oI : Obj) (h : Heap) (tk : Nat) (c1 : Obj) (c2 : Obj) (c3 : Obj) (c4 : Obj) (w1 : Option Value) (w2 : Option Value) (w3 : Option Value) (w4 : Option Value) (pJ : Value) (onJ : Obj) (iJ : Int) (tJ : Tok) (nJ : Nat) (kvs : List (Int × Value)) (rs : List (Addr × Obj)) (tv : Tok) (v' : Int), directUT_s.1 prog w s base outer mean mg mb R u du f df rc nb ui fi p on b r i t n vs ns tl pl dp gd un g L' j m₁ g2 I oI h tk c1 c2 c3 c4 w1 w2 w3 w4 pJ onJ iJ tJ nJ kvs rs tv v') _ _ _ _ _ _ _ _ _ _ _ _ _ _ _ _ _ _ _ _ _ _ _ _ _ _ _ _ _ _ _ _ _ _ _ _ _ _ _ _ _ _ _ _ _ _ _ _ _ _ _ _ _ _ _ _ _ 
  intro prog w s base outer mean mg mb R u du f df rc nb ui fi p on b r i t n vs ns tl pl dp gd un g L' j m₁ g2 I oI h tk c1 c2 c3 c4 w1 w2 w3 w4 pJ onJ iJ tJ nJ kvs rs tv v' S Rm hrg T0 D0 D1 D2 D3 D4 D5 Y1 Y2 Y3 Y4 hv0' hv1' lo hl0 hl8 hrn hi hn hg hL hj T2 F2 B2 N2 oI1 e1 e2 e3 e4 hd hkl h0' hKV a1 a2 a3 a4 a5 a6 a7 a8 a9 a10 X2 TT2 hrg2 hu
  k_steps
  unfold Halt
  intro h0h tk0 i9 t9 n9 v z rs1 F0 N0 h09 hsub hRU htr
  (try dsimp only at N0)
  have aI : OffR I rs1 := htr I _ (by k_mem) ⟨AllNe.mem oI1.2.2.2.2.2.2.2.2.2.2⟩
  replace a1 := htr _ _ (by k_mem) a1
  replace a2 := htr _ _ (by k_mem) a2
  replace a3 := htr _ _ (by k_mem) a3
  replace a4 := htr _ _ (by k_mem) a4
  replace a5 := htr _ _ (by k_mem) a5
  replace a6 := htr _ _ (by k_mem) a6
  replace a7 := htr _ _ (by k_mem) a7
  replace a8 := htr _ _ (by k_mem) a8
  replace a9 := htr _ _ (by k_mem) a9
  replace a10 := htr _ _ (by k_mem) a10
  have hKV1 := hKV.mono hsub
  have hRU' := hRU
  clear hKV hsub htr
  k_steps
  unfold Halt
  refine ite_cut (P := fun v' => ∃ t, v' = .int z t) ?sz ?_
  case sz =>
    cases hRU with
    | S hx5 hxl =>
      simp only [Bool.false_eq_true, if_false]
      k_steps
      all_goals first | exact ⟨⟨_, rfl⟩, _, rfl⟩ | exact ⟨_, rfl⟩
    | L q1 q2 q3 n1 n2 n3 hx5 hxl =>
      simp only [if_true]
      (rename News _ _ _ _ => N0)
      replace N0 := news_consT N0 q1 fun p hp => (by (repeat refine List.Mem.tail _ ?_); exact hp)
      replace N0 := news_consT N0 q2 fun p hp => (by (repeat refine List.Mem.tail _ ?_); exact hp)
      replace N0 := news_consT N0 q3 fun p hp => (by (repeat refine List.Mem.tail _ ?_); exact hp)
      k_steps
      rw [Int.add_comm]
  rintro _ tkz ⟨tz, rfl⟩
  (try dsimp only)
  k_steps
  unfold Halt
  intro h3 tk3 g3 p3 rb v1 v2 v3 v4 rn1 T3 F3 B3 N3 nb3 y1 y2 y3 y4
  have X3 := S.X.keeps B3.stays
  have TT3 := S.T.keeps B3.stays
  have hrg3 := isList_turn T3 hrg
  (try dsimp only at N3)
  k_steps
  unfold Halt
  intro h4 tk4 g4 y va p4 o4 kvs4 T4 F4 B4 N4 hd4 hiff hyes hno
  have X4 := S.X.keeps B4.stays
  have TT4 := S.T.keeps B4.stays
  (try dsimp only at N4)
  have va1 : y = true → va = .none := fun e => (hyes e).1
  have va2 : y = false → ∃ c t, va = .int c t := fun e => (hno e).1
  obtain ⟨dV, hdV, hV⟩ := laid_rec (len := fi.len) hRU'
  have hkl4 : kvs4.length ≤ j + 1 := by
    cases y with
    | true => obtain ⟨_, V, _, rfl⟩ := hyes rfl; exact Nat.le_trans (stored_length_le _ _ _) (by omega)
    | false => rw [(hno rfl).2]; omega
  have hKV4 : KV rs1 kvs4 := by
    cases y with
    | true => obtain ⟨_, V, hl, rfl⟩ := hyes rfl; exact KV.stored hKV1 (hV V hl) hdV
    | false => rw [(hno rfl).2]; exact hKV1
  k_steps
  unfold Halt
  intro h5 tk5 g5 p5 rb5 w1 w2 w3 w4 rn5 T5 F5 B5 N5 nb5 z1 z2 z3 z4
  have X5 := S.X.keeps B5.stays
  have TT5 := S.T.keeps B5.stays
  (try dsimp only at N5)
  k_steps
  unfold Halt
  refine cut_if ?if1 ?_
  case if1 =>
    refine wpAny_If ?_
    k_steps
    all_goals first
      | exact ⟨rfl, _, rfl⟩
      | (exfalso; (rename (bne _ _ = true) => hb); revert hb hiff; cases y <;> simp <;> omega)
  unfold Halt
  intro tk9
  (try dsimp only)
  k_steps
  unfold Halt
  (rename Fr _ _ _ _ => F6)
  refine ListComp_F F6 (by with_unfolding_all rfl) (by decide) (by rfl) (by decide) (by rfl) ?_
  k_steps
  (rename IsRange _ _ _ _ _ _ _ _ => hR)
  (rename Fr _ _ _ _ => F7)
  (rename News _ _ _ _ => N7)
  refine ⟨_, 0, 4, _, _, _, 4, _, rfl, by rw [sizeLine_eq]; decide, rfl, F7, N7, hR, by decide, by rfl, ?_, ?_⟩
  · intro i7 v7 I7 oI7 C7 oC7 D7 m7 h7 tk7 E7 hi7 hP7 hNs hx7 F8 N8 off ne
    obtain ⟨t7, rfl⟩ := hP7
    obtain ⟨o1, o2, o3⟩ := off_all off
    obtain ⟨n1, n2, n3⟩ := ne
    clear hR F7 N7 off
    obtain ⟨W7, V7, hW7, hV7, zz7, yy7⟩ := pick4 z1 z2 z3 z4 y1 y2 y3 y4 hi7
    cases y with
    | true =>
      obtain ⟨_, V, hl, rfl⟩ := hyes rfl
      rcases numV_stored zz7 with ⟨hkk, hVV⟩ | ⟨hkk, zz⟩
      · obtain ⟨d7, r1⟩ := numV_any hKV1 yy7
        have r2 : RecD rs1 W7 _ := hVV ▸ hV V hl
        k_steps
        show ∀ _, _
        intro c7
        cases c7
        · k_steps
          all_goals k_asm
        · k_steps
          all_goals k_asm
      · obtain ⟨d7, r1, r2⟩ := numV_same hKV1 zz yy7
        k_steps
        all_goals k_asm
    | false =>
      obtain ⟨d7, r1, r2⟩ := numV_same hKV1 ((hno rfl).2 ▸ zz7) yy7
      k_steps
      all_goals k_asm
  · intro D7 h7 tk7 F8 N8 o1
    have o2 := off1_all o1
    clear hR F7 N7 o1
    cases y with
    | true =>
      obtain ⟨_, V, hl, rfl⟩ := hyes rfl
      have hyy := hiff.mp rfl
      have hpk := pickV z1 z2 z3 z4 hyy.1
      rcases lt5 hyy.1 with h5 | h5
      · replace hpk := hpk h5
        have rV := hV V hl
        k_steps
        unfold Halt
        refine ite_cut (P := fun v' => RecD rs1 v' dV) ?sv ?_
        case sv =>
          cases hRU' with
          | S hx5 hxl =>
            simp only [Bool.false_eq_true, if_false]
            k_steps
            all_goals first | exact hV _ .S | exact ⟨hV _ .S, _, rfl⟩
          | L q1 q2 q3 n1 n2 n3 hx5 hxl =>
            simp only [if_true]
            k_steps
            all_goals first | exact hV _ .L | exact ⟨hV _ .L, _, rfl⟩
        intro v9 tk9 r9
        (try dsimp only)
        k_steps
        (rename Fr _ _ _ _ => F9)
        (rename News _ _ _ _ => N9)
        refine' ⟨_, _, _, g5, (L' + 1 + 1 + 1 + 1, _) :: (L' + 1 + 1 + 1, _) :: (L' + 1 + 1, _) :: (L' + 1, _) :: (u, instObj 142 du) :: (du, unitD w ui f p5) :: (f, instObj 100 df) :: (df, fileD w fi "DIRECT" rc nb) :: (nb, o4) :: (b, listOf #[.ref r, .int i9 t9] n9) :: rs1, rfl, T5, F9, B5, news_sub N9 ?sub, ?off, _, _, _, _, _, _, _, _, p5, o4, i9, t9, n9, _, rs1, rfl, ⟨?q1, ?q2, ?q3, ?q4⟩, hd4, ?len, h09, hKV4, ⟨rfl, rfl, rfl, rfl⟩, ⟨a1, a2, a3, a4, a5, a6, a7, a8, a9, a10⟩⟩
        case sub => walk_at "my_sub"
        case q1 => assumption
        case q2 => assumption
        case q3 => assumption
        case q4 => assumption
        case len => exact hkl4
        case off => ((simp only [AllNe]); (repeat' (refine And.intro ?_ ?_)); all_goals first | k_ne | exact allNe_off aI)
      · clear hpk
        k_steps
        (rename Fr _ _ _ _ => F9)
        (rename News _ _ _ _ => N9)
        refine' ⟨_, _, _, g5, (L' + 1 + 1 + 1 + 1, _) :: (L' + 1 + 1 + 1, _) :: (L' + 1 + 1, _) :: (L' + 1, _) :: (u, instObj 142 du) :: (du, unitD w ui f p5) :: (f, instObj 100 df) :: (df, fileD w fi "DIRECT" rc nb) :: (nb, o4) :: (b, listOf #[.ref r, .int i9 t9] n9) :: rs1, rfl, T5, F9, B5, news_sub N9 ?sub, ?off, _, _, _, _, _, _, _, _, p5, o4, i9, t9, n9, _, rs1, rfl, ⟨?q1, ?q2, ?q3, ?q4⟩, hd4, ?len, h09, hKV4, ⟨rfl, rfl, rfl, rfl⟩, ⟨a1, a2, a3, a4, a5, a6, a7, a8, a9, a10⟩⟩
        case sub => walk_at "my_sub"
        case q1 => assumption
        case q2 => assumption
        case q3 => assumption
        case q4 => assumption
        case len => exact hkl4
        case off => ((simp only [AllNe]); (repeat' (refine And.intro ?_ ?_)); all_goals first | k_ne | exact allNe_off aI)
    | false =>
      k_steps
      (rename Fr _ _ _ _ => F9)
      (rename News _ _ _ _ => N9)
      refine' ⟨_, _, _, g5, (L' + 1 + 1 + 1 + 1, _) :: (L' + 1 + 1 + 1, _) :: (L' + 1 + 1, _) :: (L' + 1, _) :: (u, instObj 142 du) :: (du, unitD w ui f p5) :: (f, instObj 100 df) :: (df, fileD w fi "DIRECT" rc nb) :: (nb, o4) :: (b, listOf #[.ref r, .int i9 t9] n9) :: rs1, rfl, T5, F9, B5, news_sub N9 ?sub, ?off, _, _, _, _, _, _, _, _, p5, o4, i9, t9, n9, _, rs1, rfl, ⟨?q1, ?q2, ?q3, ?q4⟩, hd4, ?len, h09, hKV4, ⟨rfl, rfl, rfl, rfl⟩, ⟨a1, a2, a3, a4, a5, a6, a7, a8, a9, a10⟩⟩
      case sub => walk_at "my_sub"
      case q1 => assumption
      case q2 => assumption
      case q3 => assumption
      case q4 => assumption
      case len => exact hkl4
      case off => ((simp only [AllNe]); (repeat' (refine And.intro ?_ ?_)); all_goals first | k_ne | exact allNe_off aI)
theorem directU_k : directU_q directU_c :=
  directUT_s.2 fun prog w s base outer mean mg mb R u du f df rc nb ui fi p on b r i t n vs ns tl pl dp gd un g L' j m₁ g2 I oI h tk c1 c2 c3 c4 w1 w2 w3 w4 pJ onJ iJ tJ nJ kvs rs tv v' => hk_ax (P := directUT_q) _ directUT_k ((((((prog, w), (s, base)), ((outer, mean), (mg, mb))), (((R, u), (du, f)), ((df, rc), nb))), ((((ui, fi), (p, on)), ((b, r), i)), (((t, n), (vs, ns)), ((tl, pl), dp)))), (((((gd, un), (g, L')), ((j, m₁), g2)), (((I, oI), (h, tk)), ((c1, c2), c3))), ((((c4, w1), (w2, w3)), ((w4, pJ), onJ)), (((iJ, tJ), (nJ, kvs)), ((rs, tv), v')))))
theorem directU  {pl : Bool} (S : St w mean mg mb base) (B : Below A base outer s.heap) (Rm : Room A 14) (H : Has base outer s.heap [(u, instObj 142 du), (du, unitD w ui f p), (f, instObj 100 df), (df, fileD w fi "DIRECT" rc nb), (nb, on), (b, listOf #[.ref r, .int i t] n)]) (D : Dist [(u, instObj 142 du), (du, unitD w ui f p), (f, instObj 100 df), (df, fileD w fi "DIRECT" rc nb), (nb, on), (b, listOf #[.ref r, .int i t] n)])
    (hd : on.IsDictOf (intKind prog w) []) (lo : (nb == sysModules) = false) (hl0 : 2 ≤ fi.len) (hl8 : fi.len ≤ 8)
    (hr : s.heap.IsList r vs.toArray) (hrn : AllNe r [(u, instObj 142 du), (du, unitD w ui f p), (f, instObj 100 df), (df, fileD w fi "DIRECT" rc nb), (nb, on), (b, listOf #[.ref r, .int i t] n)]) (hi : IntsAre vs ns) (hn : ns.length ≤ 60) (h0 : 0 ≤ i)
    (k : ∀ h' tk p' o' i' t' n' kvs rs, Step (fs outer) [du, nb, b] s.heap h' → h'.get? du = some (unitD w ui f p') → h'.get? nb = some o' → o'.IsDictOf (intKind prog w) kvs → kvs.length ≤ 10 → h'.get? b = some (listOf #[.ref r, .int i' t'] n') → 0 ≤ i' →
      (∀ q ∈ rs, h'.get? q.1 = some q.2 ∧ s.heap.get? q.1 = none) → KV rs kvs → R (.ok (.ret (.bool true))) { s with heap := h', toks := tk }) :
    codeAny (model prog w) A (.call (.ref 316) ⟨[.ref b, .ref u, .bool pl, .int fi.len tl], []⟩) R s :=
  directU_s.2 (fun prog w s base outer mean mg mb R u du f df rc nb ui fi p on b r i t n vs ns tl pl dp gd un g L' h₁ tk₁ c1 c2 c3 c4 => hk_ax (P := directU_q) _ directU_k ((((((prog, w), s), (base, outer)), (((mean, mg), mb), (R, u))), ((((du, f), df), (rc, nb)), (((ui, fi), p), (on, b)))), (((((r, i), t), (n, vs)), (((ns, tl), pl), (dp, gd))), ((((un, g), L'), (h₁, tk₁)), ((c1, c2), (c3, c4)))))) A prog w s base outer mean mg mb R u du f df rc nb ui fi p on b r i t n vs ns tl pl S B Rm H D hd lo hl0 hl8 hr hrn hi hn h0 k
end
end
section
open PySem PySem.W PyProof.Rows PySem.Spec PySem.Calls PyProof.Rows.LCg PySem.SeqAt
theorem line_M28_1 : True := by
  k_with_none
  w_top off
  k_with "my:k_mem" => (first | exact m0_ | exact m1_ | exact m2_ | exact m3_ | exact m4_ | exact m5_ | exact m6_ | exact m7_ | (refine m8s_ ?_; k_mem))
  k_with "my:k_ne" => (((try dsimp only); first
  | exact AllNe.mem (by assumption) (_, _) (by k_mem)
  | exact Ne.symm (AllNe.mem (by assumption) (_, _) (by k_mem))
  | assumption
  | exact Ne.symm (by assumption)
  | exact Nat.ne_of_lt (lt_at (by assumption) (by k_mem))
  | exact Nat.ne_of_gt (lt_at (by assumption) (by k_mem))
  | (refine neN ?_; omega)))
  k_with "my_enter" => ((
  (case ho => k_is)
  (case hcd => k_is)
  (case hbind => exact BindsTo.of_eq rfl)
  (case hloc => exact locs rfl)
  (case hco => exact rfl)
  (case hgen => exact rfl)
  (case hk => exact rfl)
  (case hcell => decide)))
  k_with "my_dist" => (((simp only [Dist, AllNe, and_true]); (repeat' (refine And.intro ?_ ?_)); all_goals k_ne))
  k_with "my_bs" => (first | exact List.forall_mem_nil _ | (refine List.forall_mem_cons.mpr ⟨⟨⟨_, by k_mem⟩, ⟨by k_ne, by k_ne⟩⟩, ?_⟩; walk_at "my_bs"))
  k_with "my_bs0" => (first | exact List.forall_mem_nil _ | (refine List.forall_mem_cons.mpr ⟨⟨_, by k_mem⟩, ?_⟩; walk_at "my_bs0"))
  k_with "my_ro" => (first | exact List.forall_mem_nil _ | (refine List.forall_mem_cons.mpr ⟨?aZ, ?bZ⟩; (case aZ => first | exact fun _ => News.get (by k_asm) (by k_mem) | exact fun hn => absurd (by simp) hn); (case bZ => walk_at "my_ro")))
  k_with "exec Raise some none" => ((k_here; (with_reducible show wpAny _ _ (exec (Stmt.Raise (some (Expr.Call (Expr.Name (PySem.Str.ofString "IoFault") _) _ _ _)) none _) _) _ _ _); k_dflt (refine' raise_K (C := 51) ?XZ ?KZ ?bZ ?tZ ?hZ ?_; (case XZ => k_asm); (case KZ => k_is); (case bZ => rfl); (case tZ => rfl); (case hZ => first | exact rfl | exact Room.hand (by assumption)); k_whole)))
  k_with "exec Raise some none" => ((k_here; (with_reducible show wpAny _ _ (exec (Stmt.Raise (some (Expr.Call (Expr.Name (PySem.Str.ofString "EndFault") _) _ _ _)) none _) _) _ _ _); k_dflt (refine' raise_K (C := 70) ?XZ ?KZ ?bZ ?tZ ?hZ ?_; (case XZ => k_asm); (case KZ => k_is); (case bZ => rfl); (case tZ => rfl); (case hZ => first | exact rfl | exact Room.hand (by assumption)); k_whole)))
  k_with "call ref" => ((k_here; (with_reducible show wpAny _ _ (PySem.call (Value.ref 51) [_, _]) _ _ _); k_dflt (refine' mk51_K ?SZ ?BZ ?FZ ?NZ ?RZ ?_; (case SZ => assumption); (case BZ => assumption); (case FZ => k_asm); (case NZ => k_asm); (case RZ => exact Room.less (by assumption) (by decide)); k_whole); intro h' tk' e' t' d' tx' ty' F' N' l1 l2 l3; (try k_sweep)))
  k_with "call ref" => ((k_here; (with_reducible show wpAny _ _ (PySem.call (Value.ref 70) [_]) _ _ _); k_dflt (refine' mk70_K ?SZ ?BZ ?FZ ?NZ ?RZ ?_; (case SZ => assumption); (case BZ => assumption); (case FZ => k_asm); (case NZ => k_asm); (case RZ => exact Room.less (by assumption) (by decide)); k_whole); intro h' tk' e' t' d' tx' ty' tz' F' N' l1 l2 l3; (try k_sweep)))
  k_with "RaiseMade" => ((k_dflt (refine' raiseMade_ ?XZ ?hZ ?_; (case XZ => k_in); (case hZ => exact News.get (by k_asm) (by k_mem)))))
  k_with "my_enterC" => ((
  (case ho => k_is)
  (case hcd => k_is)
  (case hbind => exact BindsTo.of_eq rfl)
  (case hkind => exact rfl)
  (case hnd => decide +kernel)
  (case hco => exact rfl)
  (case hgen => exact rfl)
  (case hk => exact rfl)))
  k_with "my:k_all" => (exact OffR.all (by assumption))
  k_with "my_sub" => (first | exact List.forall_mem_nil _ | (refine List.forall_mem_cons.mpr ⟨?aZ, ?bZ⟩; (case aZ => k_mem); (case bZ => walk_at "my_sub")) | exact fun _ hq => by ((repeat refine List.Mem.tail _ ?_); exact hq))
  k_with "my_mems" => (first | exact List.forall_mem_nil _ | (refine List.forall_mem_cons.mpr ⟨?aZ, ?bZ⟩; (case aZ => k_mem); (case bZ => walk_at "my_mems")))
  k_with "my_allne" => (((simp only [AllNe, and_true]); (repeat' (refine And.intro ?_ ?_)); all_goals k_ne))
  k_with "my_ro" => (first | exact List.forall_mem_nil _ | (refine List.forall_mem_cons.mpr ⟨?aZ, ?bZ⟩; (case aZ => first | exact fun _ => News.get (by k_asm) (by k_mem) | exact fun hn => absurd (by simp) hn); (case bZ => walk_at "my_ro")) | exact fun _ hq _ => News.get (by k_asm) (by ((repeat refine List.Mem.tail _ ?_); exact hq)))
  k_with "my_bsne" => (first | exact List.forall_mem_nil _ | (refine List.forall_mem_cons.mpr ⟨?aZ, ?bZ⟩; (case aZ => k_ne); (case bZ => walk_at "my_bsne")) | exact OffR.all (by assumption))
  k_with "eval ListComp" => (refine halt ?_)
  k_with "exec While Compare" => (refine halt ?_)
  k_with "exec For" => (refine halt ?_)
  k_with "exec For Name Name cons nil" => (refine halt ?_)
  k_with "exec For Name Call cons nil" => (refine halt ?_)
  k_with "subscriptTail Name Slice ref ref" => ((k_here; (with_reducible show wpAny _ _ (subscriptTail _ (PySem.Expr.Slice _ _ none _) (Value.ref _) (Value.ref _)) _ _ _); k_dflt (refine' kmk_slice_lit ?FZ ?NZ ?lZ ?pZ ?qZ ?eZ ?_ ?sZ ?tZ ?zZ; (case FZ => k_asm); (case NZ => k_asm); (case lZ => exact ⟨_, News.get (by k_asm) (by k_mem), rfl, _, rfl⟩); (case pZ => kmk_part); (case qZ => kmk_part); (case eZ => exact upto_take _ (by omega)); (case sZ => with_unfolding_all rfl); (case tZ => kmk_pure); (case zZ => exact size_ok (by first | assumption | omega))); intro D' h' F' N' l1; (k_dflt have oD' : OffR D' _ := ⟨fun q hq => Nat.ne_of_lt (l1 q (by ((repeat refine List.Mem.tail _ ?_); exact hq)))⟩); (try k_lt l1); (try k_sweep)))
  trivial
theorem catL (xs ys : List Value) : xs.toArray.toList ++ ys.toArray.toList = xs ++ ys := rfl
theorem cat_ok {xs ys : List Value} {n : Nat} (h : xs.length ≤ 20) (h2 : ys.length ≤ 20) : (List.take n xs).toArray.toList.length + ys.toArray.toList.length ≤ sizeLine := by
  rw [sizeLine_eq]; simp; omega
theorem line_M28_2 : True := by
  k_with "binaryOp Add ref ref" => ((k_here; (with_reducible show wpAny _ _ (binaryOp _ (Value.ref _) (Value.ref _)) _ _ _); k_dflt (refine' kmk_add_lit ?FZ ?NZ ?aZ ?bZ ?eZ ?_ ?zZ; (case FZ => k_asm); (case NZ => k_asm); (case aZ => exact ⟨_, News.get (by k_asm) (by k_mem), rfl, _, rfl⟩); (case bZ => exact ⟨_, News.get (by k_asm) (by k_mem), rfl, _, rfl⟩); (case eZ => exact catL _ _); (case zZ => exact cat_ok (by first | assumption | omega) (Nat.le_of_ble_eq_true rfl))); intro D' h' F' N' l1; (k_dflt have oD' : OffR D' _ := ⟨fun q hq => Nat.ne_of_lt (l1 q (by ((repeat refine List.Mem.tail _ ?_); exact hq)))⟩); (try k_lt l1); (try k_sweep)))
  k_with "my_offR" => (first | assumption | (refine OffR.cons ?aZ ?bZ; (case aZ => k_ne); (case bZ => walk_at "my_offR")) | exact OffR.nil)
  k_with "my_ho" => (((repeat' (refine And.intro ?_ ?_)); all_goals walk_at "my_offR"))
  k_with "call ref" => ((k_here; (with_reducible show wpAny _ _ (PySem.call (Value.ref 265) [Value.ref _]) _ _ _); k_dflt (refine' rewind_K ?SZ ?BZ ?FZ ?NZ ?RZ ?h1Z ?DZ ?UZ ?_; (case SZ => assumption); (case BZ => assumption); (case FZ => k_asm); (case NZ => k_asm); (case RZ => exact Room.less (by assumption) (by decide)); (case h1Z => walk_at "my_mems"); (case DZ => walk_at "my_dist"); (case UZ => k_updF)); intro h' tk' tz' F' N'; (try dsimp only at N'); (try k_sweep)))
  k_with "call ref" => ((k_here; (with_reducible show wpAny _ _ (PySem.call (Value.ref 258) [Value.ref _]) _ _ _); k_dflt (refine' backspace0_K ?SZ ?BZ ?FZ ?NZ ?RZ ?h1Z ?DZ ?hpZ ?_; (case SZ => assumption); (case BZ => assumption); (case FZ => k_asm); (case NZ => k_asm); (case RZ => exact Room.less (by assumption) (by decide)); (case h1Z => walk_at "my_mems"); (case DZ => walk_at "my_dist"); (case hpZ => omega)); intro h' tk' F' N'; (try dsimp only at N'); (try k_sweep); refine halt ?_))
  k_with "call ref" => ((k_here; (with_reducible show wpAny _ _ (PySem.call (Value.ref 258) [Value.ref _]) _ _ _); k_dflt (refine' backspace_K ?SZ ?BZ ?FZ ?NZ ?RZ ?h1Z ?DZ ?hpZ ?UZ ?_; (case SZ => assumption); (case BZ => assumption); (case FZ => k_asm); (case NZ => k_asm); (case RZ => exact Room.less (by assumption) (by decide)); (case h1Z => walk_at "my_mems"); (case DZ => walk_at "my_dist"); (case hpZ => omega); (case UZ => k_updF)); intro h' tk' tz' F' N'; (try dsimp only at N'); (try k_sweep); refine halt ?_))
  k_with "call ref" => ((k_here; (with_reducible show wpAny _ _ (PySem.call (Value.ref 230) [Value.ref _]) _ _ _); k_dflt (refine' readR_K ?SZ ?BZ ?FZ ?NZ ?RZ ?h1Z ?DZ ?hzZ ?h0Z ?hpZ ?hvZ ?UZ ?_; (case SZ => assumption); (case BZ => assumption); (case FZ => k_asm); (case NZ => k_asm); (case RZ => exact Room.less (by assumption) (by decide)); (case h1Z => walk_at "my_mems"); (case DZ => walk_at "my_dist"); (case hzZ => first | assumption | omega); (case h0Z => omega); (case hpZ => omega); (case hvZ => assumption); (case UZ => k_updF)); intro h' tk' tz' F' N'; (try dsimp only at N'); (try k_sweep)))
  k_with "call ref" => ((k_here; (with_reducible show wpAny _ _ (PySem.call (Value.ref 244) [Value.ref _, _]) _ _ _); k_dflt (refine' writeR_K ?SZ ?BZ ?FZ ?NZ ?RZ ?h1Z ?DZ ?hzZ ?h0Z ?hpZ ?U1Z ?U2Z ?hdrZ ?_; (case SZ => assumption); (case BZ => assumption); (case FZ => k_asm); (case NZ => k_asm); (case RZ => exact Room.less (by assumption) (by decide)); (case h1Z => walk_at "my_mems"); (case DZ => walk_at "my_dist"); (case hzZ => first | assumption | omega); (case h0Z => omega); (case hpZ => omega); (case U1Z => k_updF); (case U2Z => (intro tz8; (try dsimp only); k_updF)); (case hdrZ => k_ne)); intro h' tk' cap' tz' F' N'; (try dsimp only at N'); (try k_sweep)))
  k_with "call ref" => ((k_here; (with_reducible show wpAny _ _ (PySem.call (Value.ref 251) [Value.ref _]) _ _ _); k_dflt (refine' endR_K ?SZ ?BZ ?FZ ?NZ ?RZ ?h1Z ?DZ ?hzZ ?h0Z ?hpZ ?U1Z ?U2Z ?hdrZ ?_; (case SZ => assumption); (case BZ => assumption); (case FZ => k_asm); (case NZ => k_asm); (case RZ => exact Room.less (by assumption) (by decide)); (case h1Z => walk_at "my_mems"); (case DZ => walk_at "my_dist"); (case hzZ => first | assumption | omega); (case h0Z => omega); (case hpZ => omega); (case U1Z => k_updF); (case U2Z => (intro tz8; (try dsimp only); k_updF)); (case hdrZ => k_ne)); intro h' tk' cap' tz' F' N'; (try dsimp only at N'); (try k_sweep)))
  k_with "call ref" => ((k_here; (with_reducible show wpAny _ _ (PySem.call (Value.ref 306) [Value.ref 230, Value.ref _, Value.ref _]) _ _ _); k_dflt (refine' heardRS_K ?SZ ?BZ ?FZ ?NZ ?RZ ?T0Z ?p0Z ?h1Z ?DZ ?hzZ ?h0Z ?DpZ ?UZ ?_; (case SZ => assumption); (case BZ => assumption); (case FZ => k_asm); (case NZ => k_asm); (case RZ => exact Room.less (by assumption) (by decide)); (case T0Z => assumption); (case p0Z => k_mem); (case h1Z => walk_at "my_mems"); (case DZ => walk_at "my_dist"); (case hzZ => first | assumption | omega); (case h0Z => omega); (case DpZ => walk_at "my_allne"); (case UZ => k_updF)); skip))
  k_with "call ref" => ((k_here; (with_reducible show wpAny _ _ (PySem.call (Value.ref 306) [Value.ref 244, Value.ref _, Value.ref _]) _ _ _); k_dflt (refine' heardWS_K ?SZ ?BZ ?FZ ?NZ ?RZ ?T0Z ?p0Z ?h1Z ?DZ ?hzZ ?h0Z ?hpZ ?DpZ ?_; (case SZ => assumption); (case BZ => assumption); (case FZ => k_asm); (case NZ => k_asm); (case RZ => exact Room.less (by assumption) (by decide)); (case T0Z => assumption); (case p0Z => k_mem); (case h1Z => walk_at "my_mems"); (case DZ => walk_at "my_dist"); (case hzZ => first | assumption | omega); (case h0Z => omega); (case hpZ => omega); (case DpZ => walk_at "my_allne")); skip))
  trivial
theorem off3_sub {I C D : Addr} {l l' rs : List (Addr × Obj)} (h : Off3 I C D l) (hs : ∀ q ∈ l', (∃ o, (q.1, o) ∈ l) ∨ q ∈ rs) (a : OffR I rs) (b : OffR C rs) (c : OffR D rs) : Off3 I C D l' := Off3.of fun q hq => by
  obtain ⟨x, y, z⟩ := off_all h
  rcases hs q hq with ⟨o, hq⟩ | hq
  · exact ⟨AllNe.mem x (q.1, o) hq, AllNe.mem y (q.1, o) hq, AllNe.mem z (q.1, o) hq⟩
  · exact ⟨a.all q hq, b.all q hq, c.all q hq⟩
theorem line_M28_3 : True := by
  k_with "my_sor" => (first | (refine List.forall_mem_cons.mpr ⟨?aZ, ?bZ⟩; (case aZ => exact .inl ⟨_, by k_mem⟩); (case bZ => walk_at "my_sor")) | exact fun _ hq => .inr hq)
  k_with "call ref" => ((k_here; (with_reducible show wpAny _ _ (PySem.call (Value.ref 294) [Value.ref _, Value.int _ _]) _ _ _); k_dflt (refine' pluck_K ?SZ ?BZ ?FZ ?NZ ?RZ ?hrZ ?rbZ ?hiZ ?hnZ ?h0Z ?hmZ ?hm2Z ?UZ ?_; (case SZ => assumption); (case BZ => assumption); (case FZ => k_asm); (case NZ => k_asm); (case RZ => exact Room.less (by assumption) (by decide)); (case hrZ => exact isList_keep (by k_asm) (by assumption)); (case UZ => k_updF); (case rbZ => k_ne); (case hiZ => assumption); (case hnZ => assumption); (case h0Z => assumption); (case hmZ => first | decide | omega); (case hm2Z => first | decide | omega); k_whole; intro h' tk' t' v' tv' n' F' N' h0' hv0' hv1'; (try dsimp only at N'); (try k_sweep))))
  k_with "call ref" => ((k_here; (with_reducible show wpAny _ _ (PySem.call (Value.ref 294) [Value.ref _, Value.int (_ + 1) _]) _ _ _); k_dflt (refine' pluck_K ?SZ ?BZ ?FZ ?NZ ?RZ ?hrZ ?rbZ ?hiZ ?hnZ ?h0Z ?hmZ ?hm2Z ?UZ ?_; (case SZ => assumption); (case BZ => assumption); (case FZ => k_asm); (case NZ => k_asm); (case RZ => exact Room.less (by assumption) (by decide)); (case hrZ => exact isList_keep (by k_asm) (by assumption)); (case UZ => k_updF); (case rbZ => k_ne); (case hiZ => assumption); (case hnZ => assumption); (case h0Z => assumption); (case hmZ => first | decide | omega); (case hm2Z => first | decide | omega); k_whole; refine halt ?_)))
  k_with "my_spR" => (first | (refine' SpR.cons ?_; walk_at "my_spR") | exact SpR.nil)
  k_with "my_updR" => (first | (refine' UpdR.head ?aaZ ?bbZ; (case aaZ => k_all); (case bbZ => walk_at "my_spR")) | (refine' UpdR.tail ?aaZ ?bbZ; (case aaZ => k_ne); (case bbZ => walk_at "my_updR")))
  k_with "call ref" => ((k_here; (with_reducible show wpAny _ _ (PySem.call (Value.ref 299) [Value.ref _, Value.bool _]) _ _ _); k_dflt (refine' recordU_K ?SZ ?BZ ?FZ ?NZ ?RZ ?hrZ ?rbZ ?hiZ ?hnZ ?h0Z ?UZ ?_; (case SZ => assumption); (case BZ => assumption); (case FZ => k_asm); (case NZ => k_asm); (case RZ => exact Room.less (by assumption) (by decide)); (case hrZ => exact isList_keep (by k_asm) (by assumption)); (case UZ => walk_at "my_updR"); (case rbZ => k_ne); (case hiZ => assumption); (case hnZ => assumption); (case h0Z => assumption))))
  k_with "call ref" => ((k_here; (with_reducible show wpAny _ _ (PySem.call (Value.ref 323) [Value.ref _]) _ _ _); k_dflt (refine' rows_K ?SZ ?BZ ?FZ ?NZ ?RZ ?T0Z ?h1Z ?DZ ?hoZ ?hzZ ?hxZ ?UZ ?_; (case SZ => assumption); (case BZ => assumption); (case FZ => k_asm); (case NZ => k_asm); (case RZ => exact Room.less (by assumption) (by decide)); (case T0Z => assumption); (case hxZ => assumption); (case h1Z => walk_at "my_sub"); (case DZ => walk_at "my_dist"); (case hoZ => walk_at "my_ho"); (case hzZ => first | assumption | omega); (case UZ => k_updF)); skip))
  k_with "call ref" => ((k_here; (with_reducible show wpAny _ _ (PySem.call (Value.ref 328) [Value.ref _, Value.ref _, Value.int _ _]) _ _ _); k_dflt (refine' reaches_K ?SZ ?BZ ?FZ ?NZ ?RZ ?T0Z ?h1Z ?DZ ?hoZ ?hzZ ?hxZ ?hp0Z ?hklZ ?UZ ?_; (case SZ => assumption); (case BZ => assumption); (case FZ => k_asm); (case NZ => k_asm); (case RZ => exact Room.less (by assumption) (by decide)); (case T0Z => assumption); (case hxZ => assumption); (case h1Z => walk_at "my_sub"); (case DZ => walk_at "my_dist"); (case hoZ => walk_at "my_ho"); (case hzZ => first | assumption | omega); (case hp0Z => omega); (case hklZ => omega); (case UZ => k_updF)); skip))
  trivial
theorem recPairA {rs rs' : List (Addr × Obj)} {T D : Addr} {vs : List Value} {ds : List PyData} {n : Nat} {c : Int} {t : Tok} (x : RecDs rs vs ds) (hT : (T, tupO [.ref D, .int c t]) ∈ rs') (hD : (D, listOf vs.toArray n) ∈ rs') (hs : ∀ q ∈ rs, q ∈ rs') : RecD rs' (.ref T) (.tuple [.list ds, .int c]) :=
  have z := recList (x.mono hs) hD
  recPair z.1 z.2 hT
theorem line_M28_4 : True := by
  k_with "compareOp NotEq ref ref" => ((k_here; k_dflt (refine' cmpNe ?NZ (fun _ hq => hq) ?aZ ?bZ ?uZ ?_; (case NZ => k_asm); (case aZ => (refine' recPairA ?x1Z ?T1Z ?D1Z ?s1Z; (case T1Z => k_mem); (case D1Z => k_mem); (case x1Z => assumption); (case s1Z => walk_at "my_sub"))); (case bZ => (refine' recPairA ?x2Z ?T2Z ?D2Z ?s2Z; (case T2Z => k_mem); (case D2Z => k_mem); (case x2Z => assumption); (case s2Z => walk_at "my_sub"))); (case uZ => assumption))))
  k_with "compareOp Eq ref ref" => ((k_here; k_dflt (refine' cmpEq ?NZ (fun _ hq => hq) ?aZ ?bZ ?uZ ?_; (case NZ => k_asm); (case aZ => (refine' recPairA ?x1Z ?T1Z ?D1Z ?s1Z; (case T1Z => k_mem); (case D1Z => k_mem); (case x1Z => assumption); (case s1Z => walk_at "my_sub"))); (case bZ => (refine' recPairA ?x2Z ?T2Z ?D2Z ?s2Z; (case T2Z => k_mem); (case D2Z => k_mem); (case x2Z => assumption); (case s2Z => walk_at "my_sub"))); (case uZ => assumption))))
  trivial
section
variable {prog : Program} {w : World} {A A₀ : Around} {E : Value → Shared → Prop} {base g₀ : Heap} {outer : List Env} {L : Addr} {m : Str → Option Value} {env : Env}
noncomputable def DoneA (A₀ : Around) (base g₀ : Heap) (outer : List Env) (L : Addr) (m : Str → Option Value) (n : Nat) (J : Nat → List Value → Heap → List (Addr × Obj) → Prop) (y : Str) (Q : Flow → Shared → Prop) (s₁ : Shared) : Prop :=
  ∀ D h tk ys g news, ys.length = n → KtsTurn (fs outer) g₀ g → Fr g L h (fun z => if z = y then some (.ref D) else m z) → Below A₀ base outer g → News g L h ((D, lst ys) :: news) → Off1 D news → J n ys g news → Q .next { s₁ with heap := h, toks := tk }
noncomputable def SrcA (prog : Program) (w : World) (A A₀ : Around) (base g₀ : Heap) (outer : List Env) (L : Addr) (m : Str → Option Value) (env : Env) (elt : Expr) (x : Str) (scope : Scope) (cl : List (Str × Addr)) (y : Str) (Q : Flow → Shared → Prop) (xv : Value) (s₁ : Shared) : Prop :=
  ∃ n J news r a b t u v, n ≤ sizeLine ∧ A.handled = none ∧ Fr g₀ L s₁.heap m ∧ Below A₀ base outer g₀ ∧ News g₀ L s₁.heap news ∧ J 0 [] g₀ news ∧
    xv = .ref r ∧ IsRange s₁.heap r a b 1 t u v ∧ Builtin.Range.small a b 1 = true ∧ Builtin.Range.rangeSize a b 1 = ((n : Nat) : Int) ∧
    (∀ h, TurnM prog w A A₀ base g₀ outer L m env elt x scope cl (fun i v => ∃ t, v = .int (a + (i : Int)) t) n J { s₁ with heap := h }) ∧ (∀ h, DoneA A₀ base g₀ outer L m n J y Q { s₁ with heap := h })
noncomputable def Assign_ListComp_M_P (prog : Program) (w : World) (A : Around) (A₀ : Around) (E : Value → Shared → Prop) (base : Heap) (g₀ : Heap) (outer : List Env) (L : Addr) (m : Str → Option Value) (env : Env) (s : Shared) (elt : Expr) (iter : Expr) (x : Str) (y : Str) (px : Pos) (py : Pos) (scope : Scope) (cl : List (Str × Addr)) (pos : Pos) (spos : Pos) (Q : Flow → Shared → Prop) : Prop := ∀ (_B : Below A₀ base outer g₀) (_F₀ : Fr g₀ L s.heap m) (hLe : env.locals = L) (hsw : swapsWith (.ListComp elt [⟨.Name x px, iter, [], 0⟩] scope pos) (some (.Name y py)) spos.line env = pure true) (hclos : closureFor scope env = pure cl) (hcell : ∀ z ∈ scope.names, z.2 ≠ .cell) (hkind : scope.kind = .function) (hnames : ∀ z ∈ scope.names, z.2 = .local → scope.names.lookup z.1 = some .local) (hx : scope.names.lookup x = some .local) (hy : env.kindOf y = some .local) (hp : (env.scope.kind == .class || (env.scope.kind == .module && env.locals != env.globals)) = false) (h : wpAny (model prog w) A (eval iter env) (SrcA prog w A A₀ base g₀ outer L m env elt x scope cl y Q) E s) (hs : ∀ x, foldedSetIterable iter env x = pure x), wpAny (model prog w) A (exec (.Assign [.Name y py] (.ListComp elt [⟨.Name x px, iter, [], 0⟩] scope pos) spos) env) Q E s
noncomputable def Assign_ListComp_M_q (x : (((((Program × World) × Around) × ((Around × (Value → Shared → Prop)) × Heap)) × (((Heap × List Env) × Addr) × (((Str → Option Value) × Env) × Shared))) × ((((Expr × Expr) × Str) × ((Str × Pos) × Pos)) × (((Scope × List (Str × Addr)) × Pos) × (Pos × (Flow → Shared → Prop)))))) : Prop := Assign_ListComp_M_P x.1.1.1.1.1 x.1.1.1.1.2 x.1.1.1.2 x.1.1.2.1.1 x.1.1.2.1.2 x.1.1.2.2 x.1.2.1.1.1 x.1.2.1.1.2 x.1.2.1.2 x.1.2.2.1.1 x.1.2.2.1.2 x.1.2.2.2 x.2.1.1.1.1 x.2.1.1.1.2 x.2.1.1.2 x.2.1.2.1.1 x.2.1.2.1.2 x.2.1.2.2 x.2.2.1.1.1 x.2.2.1.1.2 x.2.2.1.2 x.2.2.2.1 x.2.2.2.2
noncomputable def Assign_ListComp_M_c := @Classical.epsilon _ ⟨(((((PySem.Challenge.pw_sa0211_01, aWorld 1), {}), (({}, fun _ _ => True), {})), ((({}, []), 0), ((fun _ => none, default), {}))), ((((default, default), Str.ofString ""), ((Str.ofString "", default), default)), (((default, default), default), (default, fun _ _ => True))))⟩ fun x => ¬ Assign_ListComp_M_q x
theorem Assign_ListComp_M_k : Assign_ListComp_M_q Assign_ListComp_M_c := by
  refine (?fq : ∀ (prog : Program) (w : World) (A : Around) (A₀ : Around) (E : Value → Shared → Prop) (base : Heap) (g₀ : Heap) (outer : List Env) (L : Addr) (m : Str → Option Value) (env : Env) (s : Shared) (elt : Expr) (iter : Expr) (x : Str) (y : Str) (px : Pos) (py : Pos) (scope : Scope) (cl : List (Str × Addr)) (pos : Pos) (spos : Pos) (Q : Flow → Shared → Prop), Assign_ListComp_M_P prog w A A₀ E base g₀ outer L m env s elt iter x y px py scope cl pos spos Q) _ _ _ _ _ _ _ _ _ _ _ _ _ _ _ _ _ _ _ _ _ _ _ 
  intro prog w A A₀ E base g₀ outer L m env s elt iter x y px py scope cl pos spos Q _B _F₀ hLe hsw hclos hcell hkind hnames hx hy hp h hs
  subst hLe
  rw [exec_Assign_Name_used _ _ _ _ hsw]
  refine wpAny_bind (wpAny_standAt (wpAny_bind ?_))
  show wpAny _ A (do let _ ← comprehension (.ListComp elt [⟨.Name x px, iter, [], 0⟩] scope pos) scope env _ (newList []) false (eval iter env) (some (assign (.Name y py) env))) _ _ s
  refine wpAny_bind (wpAny_mono (wpAny_comprehension_free (use := some (assign (.Name y py) env)) (Q := fun _ s' => Q .next s') rfl hs hclos hkind hnames
    (wpAny_mono h (fun xv s₁ h₁ => ?_) fun _ _ e => e)) (fun _ s' hq => wpAny_pure (wpAny_pure hq)) fun _ _ e => e)
  obtain ⟨n, J, news, r, a, b, t, u, v, hsz, hh, F, Bl, N, hJ, rfl, hr, hsm, hn, ht, hd⟩ := h₁
  have up : ∀ (o : Obj) b ob, s₁.heap.get? b = some ob → (s₁.heap.push o).get? b = some ob := fun o b ob e => Heap.get?_push_of_some _ e
  have offs : ∀ p ∈ news, p.1 ≠ s₁.heap.objs.size := fun p hp => Nat.ne_of_lt (Heap.lt_size (N p hp).1)
  refine wpAny_pyIter_range hr hsm ?_
  refine block_M (range_walks hh a n) hsz (fun i h st => ⟨_, st⟩) (fun i h h' o g nw ys st e e' _ _ _ => by
    have st' : h.get? s₁.heap.objs.size = some _ := st
    show h'.get? s₁.heap.objs.size = some _
    rw [e', ← e]; exact st') hcell hkind hx (by show IsRangeIter _ _ _ _ _; rw [hn]; simpa using Heap.get?_push_size _ rfl) (fun b hb => ?_)
    (F.keeps (up _)) Bl (N.grown (up _)) (Nat.ne_of_lt F.ns.lt) (next_is_new F) offs hJ (ht _) ?_
  · rw [List.mem_singleton.mp hb]
    show s₁.heap.objs.size < (s₁.heap.push _).objs.size
    rw [Heap.size_push]; exact Nat.lt_succ_self _
  · intro D C h' tk m' ys g news' hyl T' F' B' N' o1 hn hC₀ hD₀ hCL hDL hCD offC J'
    show wpAny _ A (assign (.Name y py) env (.ref D)) _ _ _
    refine wpAny_assign_Name (wpAny_storeName_local hy F'.ns (fun h₂ hn₂ hs₂ => ?_) hp)
    have hL₀ : g.get? env.locals = none := Heap.get?_none_of_le F'.above
    have F₂ : Fr g env.locals h₂ (fun z => if z = y then some (.ref D) else m z) := ⟨hn₂, fun b o e => hs₂.extBut b o (fun q => by rw [q, hL₀] at e; cases e) (F'.keep b o e), F'.above⟩
    refine ⟨m', hn.sameBut hs₂ hCL, fun h'' hs'' => hd s₁.heap D h'' _ ys g news' hyl T' (F₂.change hs'' hCL hC₀) B' (fun p hp => ?_) o1 J'⟩
    have z : h₂.get? p.1 = some p.2 := hs₂.extBut _ _ (N' p hp).2.1 (N' p hp).1
    refine ⟨hs''.extBut _ _ ?_ z, (N' p hp).2⟩
    rcases List.mem_cons.mp hp with rfl | hp
    · exact Ne.symm hCD
    · exact offC p hp
theorem Assign_ListComp_M  {s : Shared} {elt iter : Expr} {x y : Str} {px py : Pos} {scope : Scope} {cl : List (Str × Addr)} {pos spos : Pos} {Q : Flow → Shared → Prop} (_B : Below A₀ base outer g₀) (_F₀ : Fr g₀ L s.heap m) (hLe : env.locals = L)
    (hsw : swapsWith (.ListComp elt [⟨.Name x px, iter, [], 0⟩] scope pos) (some (.Name y py)) spos.line env = pure true)
    (hclos : closureFor scope env = pure cl) (hcell : ∀ z ∈ scope.names, z.2 ≠ .cell) (hkind : scope.kind = .function)
    (hnames : ∀ z ∈ scope.names, z.2 = .local → scope.names.lookup z.1 = some .local) (hx : scope.names.lookup x = some .local)
    (hy : env.kindOf y = some .local) (hp : (env.scope.kind == .class || (env.scope.kind == .module && env.locals != env.globals)) = false)
    (h : wpAny (model prog w) A (eval iter env) (SrcA prog w A A₀ base g₀ outer L m env elt x scope cl y Q) E s)
    (hs : ∀ x, foldedSetIterable iter env x = pure x := by intro _; rfl) :
    wpAny (model prog w) A (exec (.Assign [.Name y py] (.ListComp elt [⟨.Name x px, iter, [], 0⟩] scope pos) spos) env) Q E s :=
  hk_ax (P := Assign_ListComp_M_q) _ Assign_ListComp_M_k (((((prog, w), A), ((A₀, E), base)), (((g₀, outer), L), ((m, env), s))), ((((elt, iter), x), ((y, px), py)), (((scope, cl), pos), (spos, Q)))) _B _F₀ hLe hsw hclos hcell hkind hnames hx hy hp h hs
end
theorem line_M28_5 : True := by
  k_with "exec Assign cons ListComp" => (refine halt ?_)
  trivial
section
variable {prog : Program} {w : World} {A : Around} {s : Shared} {base : Heap} {outer : List Env} {mean : ExcName → Option Value} {mg mb : Str → Option Value}
  {R : Result → Shared → Prop} {u du f df rc nb : Addr} {ui : UI} {fi : FI} {b r : Addr} {i : Int} {t tp : Tok} {n rn : Nat} {vs : List Value} {ns : List Int}
noncomputable def seq_s : (Rq : Program → World → Shared → Heap → List Env → (ExcName → Option Value) → (Str → Option Value) → (Str → Option Value) → (Result → Shared → Prop) → Addr → Addr → Addr → Addr → Addr → Addr → UI → FI → Addr → Addr → Int → Tok → Tok → Nat → Nat → List Value → List Int → Bool → Nat → Option (List Code) → Nat → Heap → Addr → Heap → Nat → Obj → Obj → Prop) ×' ((∀ (prog : Program) (w : World) (s : Shared) (base : Heap) (outer : List Env) (mean : ExcName → Option Value) (mg : Str → Option Value) (mb : Str → Option Value) (R : Result → Shared → Prop) (u : Addr) (du : Addr) (f : Addr) (df : Addr) (rc : Addr) (nb : Addr) (ui : UI) (fi : FI) (b : Addr) (r : Addr) (i : Int) (t : Tok) (tp : Tok) (n : Nat) (rn : Nat) (vs : List Value) (ns : List Int) (pl : Bool) (dp : Nat) (gd : Option (List Code)) (un : Nat) (g : Heap) (L' : Addr) (h₁ : Heap) (tk₁ : Nat) (c1 : Obj) (c2 : Obj), Rq prog w s base outer mean mg mb R u du f df rc nb ui fi b r i t tp n rn vs ns pl dp gd un g L' h₁ tk₁ c1 c2) → ∀ (A : Around) (prog : Program) (w : World) (s : Shared) (base : Heap) (outer : List Env) (mean : ExcName → Option Value) (mg : Str → Option Value) (mb : Str → Option Value) (R : Result → Shared → Prop) (u : Addr) (du : Addr) (f : Addr) (df : Addr) (rc : Addr) (nb : Addr) (ui : UI) (fi : FI) (b : Addr) (r : Addr) (i : Int) (t : Tok) (tp : Tok) (n : Nat) (rn : Nat) (vs : List Value) (ns : List Int) (pl : Bool) (S : St w mean mg mb base) (B : Below A base outer s.heap) (Rm : Room A 14) (H : Has base outer s.heap [(u, instObj 142 du), (du, unitD w ui f (.int 0 tp)), (f, instObj 100 df), (df, fileD w fi "SEQUENTIAL" rc nb), (rc, listOf #[] rn), (b, listOf #[.ref r, .int i t] n)]) (D : Dist [(u, instObj 142 du), (du, unitD w ui f (.int 0 tp)), (f, instObj 100 df), (df, fileD w fi "SEQUENTIAL" rc nb), (rc, listOf #[] rn), (b, listOf #[.ref r, .int i t] n)]) (hr : s.heap.IsList r vs.toArray) (hrn : AllNe r [(u, instObj 142 du), (du, unitD w ui f (.int 0 tp)), (f, instObj 100 df), (df, fileD w fi "SEQUENTIAL" rc nb), (rc, listOf #[] rn), (b, listOf #[.ref r, .int i t] n)]) (hi : IntsAre vs ns) (hn : ns.length ≤ 60) (h0 : 0 ≤ i) (k : ∀ h' tk tz xs ds cap rs i' t' n', Step (fs outer) [du, rc, b] s.heap h' → h'.get? du = some (unitD w ui f (.int ((xs.length : Int) + 1) tz)) → h'.get? rc = some (listOf xs.toArray cap) → h'.get? b = some (listOf #[.ref r, .int i' t'] n') → 0 ≤ i' → 0 < xs.length → xs.length ≤ 8 →
      (∀ q ∈ rs, h'.get? q.1 = some q.2 ∧ s.heap.get? q.1 = none) → RecDs rs xs ds → R (.ok (.ret (.bool true))) { s with heap := h', toks := tk }), codeAny (model prog w) A (.call (.ref 333) ⟨[.ref b, .ref u, .bool pl], []⟩) R s) := by
  refine ⟨?Rq, fun kHq A prog w s base outer mean mg mb R u du f df rc nb ui fi b r i t tp n rn vs ns pl S B Rm H D hr hrn hi hn h0 k => ?pfq⟩
  case pfq =>
    have hrb : r ∉ ([(u, instObj 142 du), (du, unitD w ui f (.int 0 tp)), (f, instObj 100 df), (df, fileD w fi "SEQUENTIAL" rc nb), (rc, listOf #[] rn), (b, listOf #[.ref r, .int i t] n)] : List (Addr × Obj)).map (·.1) := fun q => by
      obtain ⟨y, hy, e⟩ := List.mem_map.mp q
      exact AllNe.mem hrn y hy e
    have hu : A.units + 3 + 64 < cLine := by
      have := Rm.uni
      omega
    obtain ⟨ha, dp, fr, gd, un⟩ := A
    obtain rfl : ha = none := Rm.han
    obtain rfl : fr = some outer := B.stack
    refine' enterC [(u, instObj 142 du), (du, unitD w ui f (.int 0 tp)), (f, instObj 100 df), (df, fileD w fi "SEQUENTIAL" rc nb), (rc, listOf #[] rn), (b, listOf #[.ref r, .int i t] n)] S B Rm.d H ?ho ?hcd ?hbind ?hkind ?hnd ?h ?hco ?hgen ?hk
    walk_at "my_enterC"
    intro g L' h₁ tk₁ cells F N Y Yn B' X T hold hg hL
    have T0 : KtsTurn (fs outer) g g := KtsTurn.refl
    obtain ⟨D0, D1, D2, D3, D4, D5, _⟩ := D
    have hrg : g.IsList r vs.toArray := let ⟨o, ho, z⟩ := hr; ⟨o, hold r o ho hrb, z⟩
    clear hr
    have hY := CellsAre.two Y
    obtain ⟨c1, c2, hE', e1, e2⟩ := hY
    subst hE'
    clear Y
    (try simp only [List.cons_append, List.nil_append] at N)
    (try simp only [List.forall_mem_cons, List.not_mem_nil, false_implies, implies_true, and_true] at Yn)
    obtain ⟨Y1, Y2⟩ := Yn
    revert Y2; revert Y1; revert e2; revert e1; revert hrg; revert D5; revert D4; revert D3; revert D2; revert D1; revert D0; revert T0; revert hL; revert hg; revert hold; revert T; revert X; revert B'; revert N; revert F; revert hu; revert hrb; revert k; revert h0; revert hn; revert hi; revert hrn; revert H; revert Rm; revert B; revert S
    exact kHq prog w s base outer mean mg mb R u du f df rc nb ui fi b r i t tp n rn vs ns pl dp gd un g L' h₁ tk₁ c1 c2
noncomputable def seq_q (x : ((((((Program × World) × Shared) × (Heap × List Env)) × (((ExcName → Option Value) × (Str → Option Value)) × ((Str → Option Value) × (Result → Shared → Prop)))) × ((((Addr × Addr) × Addr) × (Addr × Addr)) × ((Addr × UI) × (FI × Addr)))) × (((((Addr × Int) × Tok) × (Tok × Nat)) × ((Nat × List Value) × (List Int × Bool))) × ((((Nat × Option (List Code)) × Nat) × (Heap × Addr)) × ((Heap × Nat) × (Obj × Obj)))))) : Prop := seq_s.1 x.1.1.1.1.1.1 x.1.1.1.1.1.2 x.1.1.1.1.2 x.1.1.1.2.1 x.1.1.1.2.2 x.1.1.2.1.1 x.1.1.2.1.2 x.1.1.2.2.1 x.1.1.2.2.2 x.1.2.1.1.1.1 x.1.2.1.1.1.2 x.1.2.1.1.2 x.1.2.1.2.1 x.1.2.1.2.2 x.1.2.2.1.1 x.1.2.2.1.2 x.1.2.2.2.1 x.1.2.2.2.2 x.2.1.1.1.1.1 x.2.1.1.1.1.2 x.2.1.1.1.2 x.2.1.1.2.1 x.2.1.1.2.2 x.2.1.2.1.1 x.2.1.2.1.2 x.2.1.2.2.1 x.2.1.2.2.2 x.2.2.1.1.1.1 x.2.2.1.1.1.2 x.2.2.1.1.2 x.2.2.1.2.1 x.2.2.1.2.2 x.2.2.2.1.1 x.2.2.2.1.2 x.2.2.2.2.1 x.2.2.2.2.2
noncomputable def seq_c := @Classical.epsilon _ ⟨((((((PySem.Challenge.pw_sa0211_01, aWorld 1), {}), ({}, [])), ((fun _ => none, fun _ => none), (fun _ => none, fun _ _ => True))), ((((0, 0), 0), (0, 0)), ((0, ⟨0, 0, 0, 0, .none, .none⟩), (⟨0, 0, 0, 0, 0, 0, 0, 0, 0, 0, Str.ofString "", Str.ofString "", 0⟩, 0)))), (((((0, 0), 0), (0, 0)), ((0, []), ([], true))), ((((0, none), 0), ({}, 0)), (({}, 0), (instObj 0 0, instObj 0 0)))))⟩ fun x => ¬ seq_q x
noncomputable def seqD_s : (Rq : Program → World → Shared → Heap → List Env → (ExcName → Option Value) → (Str → Option Value) → (Str → Option Value) → (Result → Shared → Prop) → Addr → Addr → Addr → Addr → Addr → Addr → UI → FI → Addr → Addr → Int → Tok → Tok → Nat → Nat → List Value → List Int → Bool → Nat → Option (List Code) → Nat → Heap → Addr → Heap → Nat → Obj → Obj → Addr → Heap → Nat → List Value → Heap → Int → Tok → Nat → List (Addr × Obj) → List PyData → Prop) ×' ((∀ (prog : Program) (w : World) (s : Shared) (base : Heap) (outer : List Env) (mean : ExcName → Option Value) (mg : Str → Option Value) (mb : Str → Option Value) (R : Result → Shared → Prop) (u : Addr) (du : Addr) (f : Addr) (df : Addr) (rc : Addr) (nb : Addr) (ui : UI) (fi : FI) (b : Addr) (r : Addr) (i : Int) (t : Tok) (tp : Tok) (n : Nat) (rn : Nat) (vs : List Value) (ns : List Int) (pl : Bool) (dp : Nat) (gd : Option (List Code)) (un : Nat) (g : Heap) (L' : Addr) (h₁ : Heap) (tk₁ : Nat) (c1 : Obj) (c2 : Obj) (D : Addr) (h : Heap) (tk : Nat) (xs : List Value) (g2 : Heap) (i' : Int) (tJ : Tok) (nJ : Nat) (rs : List (Addr × Obj)) (ds : List PyData), Rq prog w s base outer mean mg mb R u du f df rc nb ui fi b r i t tp n rn vs ns pl dp gd un g L' h₁ tk₁ c1 c2 D h tk xs g2 i' tJ nJ rs ds) → seq_q seq_c) := by
  refine ⟨?Rq, fun kHc => ?pfq⟩
  case pfq =>
    refine (?fq : ∀ (prog : Program) (w : World) (s : Shared) (base : Heap) (outer : List Env) (mean : ExcName → Option Value) (mg : Str → Option Value) (mb : Str → Option Value) (R : Result → Shared → Prop) (u : Addr) (du : Addr) (f : Addr) (df : Addr) (rc : Addr) (nb : Addr) (ui : UI) (fi : FI) (b : Addr) (r : Addr) (i : Int) (t : Tok) (tp : Tok) (n : Nat) (rn : Nat) (vs : List Value) (ns : List Int) (pl : Bool) (dp : Nat) (gd : Option (List Code)) (un : Nat) (g : Heap) (L' : Addr) (h₁ : Heap) (tk₁ : Nat) (c1 : Obj) (c2 : Obj), seq_s.1 prog w s base outer mean mg mb R u du f df rc nb ui fi b r i t tp n rn vs ns pl dp gd un g L' h₁ tk₁ c1 c2) _ _ _ _ _ _ _ _ _ _ _ _ _ _ _ _ _ _ _ _ _ _ _ _ _ _ _ _ _ _ _ _ _ _ _ _ 
    intro prog w s base outer mean mg mb R u du f df rc nb ui fi b r i t tp n rn vs ns pl dp gd un g L' h₁ tk₁ c1 c2 S B Rm H hrn hi hn h0 k hrb hu F N B' X T hold hg hL T0 D0 D1 D2 D3 D4 D5 hrg e1 e2 Y1 Y2
    (try dsimp only)
    try k_fold
    k_steps
    unfold Halt
    (rename Fr _ _ _ _ => F1)
    refine Assign_ListComp_M B' F1 (by rfl) (by with_unfolding_all rfl) (by with_unfolding_all rfl) (by decide) (by rfl) (by decide) (by rfl) (by rfl) (by rfl) ?_
    k_steps
    (rename IsRange _ _ _ _ _ _ _ _ => hR)
    (rename Fr _ _ _ _ => F2)
    (rename News _ _ _ _ => N2)
    refine ⟨_, fun j ys gq nw => ∃ i' t n rs ds, nw = (L' + 1 + 1, c1) :: (L' + 1, c2) :: (u, instObj 142 du) :: (du, unitD w ui f (.int 0 tp)) :: (f, instObj 100 df) :: (df, fileD w fi "SEQUENTIAL" rc nb) :: (rc, listOf #[] rn) :: (b, listOf #[.ref r, .int i' t] n) :: rs ∧ 0 ≤ i' ∧ RecDs rs ys ds ∧
      (OffR (L' + 1 + 1) rs ∧ OffR (L' + 1) rs ∧ OffR u rs ∧ OffR du rs ∧ OffR f rs ∧ OffR df rs ∧ OffR rc rs ∧ OffR b rs), _, _, 0, _, _, _, _, ?sz, rfl, F2, B', N2, ⟨i + 1, _, _, [], [], rfl, by omega, .nil, .nil, .nil, .nil, .nil, .nil, .nil, .nil, .nil⟩, rfl, hR, (range_facts (by omega) (by omega)).1, (range_facts (by omega) (by omega)).2, fun hh => ?turn, fun hh => ?done⟩
    case sz => rw [sizeLine_eq]; omega
    case turn =>
      intro j ys g2 nw v I oI C oC D m₂ h tk E' hi2 hyl hP hNs hx2 T2 F2 B2 N2 off ne hJ
      obtain ⟨i', t, n, rs, ds, rfl, h0', hds, a1, a2, a3, a4, a5, a6, a7, a8⟩ := hJ
      obtain ⟨tv, rfl⟩ := hP
      obtain ⟨o1, o2, o3⟩ := off_all off
      obtain ⟨n1, n2, n3⟩ := ne
      have w1 : OffR I rs := ⟨AllNe.mem o1.2.2.2.2.2.2.2.2⟩
      have w2 : OffR C rs := ⟨AllNe.mem o2.2.2.2.2.2.2.2.2⟩
      have w3 : OffR D rs := ⟨AllNe.mem o3.2.2.2.2.2.2.2.2⟩
      have X2 := S.X.keeps B2.stays
      have TT2 := S.T.keeps B2.stays
      have hrg2 := isList_turn T2 hrg
      clear hR
      k_steps
      unfold Halt
      intro h3 tk3 i3 t3 n3' v3 d3 rs3 F3 N3 h03 hsub hrec hne hdep htr
      (try dsimp only at N3)
      replace a1 := htr _ _ (by k_mem) a1
      replace a2 := htr _ _ (by k_mem) a2
      replace a3 := htr _ _ (by k_mem) a3
      replace a4 := htr _ _ (by k_mem) a4
      replace a5 := htr _ _ (by k_mem) a5
      replace a6 := htr _ _ (by k_mem) a6
      replace a7 := htr _ _ (by k_mem) a7
      replace a8 := htr _ _ (by k_mem) a8
      replace w1 := htr I oI (by k_mem) w1
      replace w2 := htr C oC (by k_mem) w2
      replace w3 := htr D _ (by k_mem) w3
      refine' ⟨_, _, g2, (L' + 1 + 1, c1) :: (L' + 1, c2) :: (u, instObj 142 du) :: (du, unitD w ui f (.int 0 tp)) :: (f, instObj 100 df) :: (df, fileD w fi "SEQUENTIAL" rc nb) :: (rc, listOf #[] rn) :: (b, listOf #[.ref r, .int i3 t3] n3') :: rs3, rfl, T2, F3, B2, news_sub N3 ?sub, ?off, i3, t3, n3', rs3, _, rfl, h03, RecDs.snoc hrec hne hdep (hds.mono hsub), ?w1, ?w2, ?w3, ?w4, ?w5, ?w6, ?w7, ?w8⟩
      case sub => walk_at "my_sub"
      case off => exact off3_sub off (by walk_at "my_sor") w1 w2 w3
      all_goals walk_at "my_offR"
    case done =>
      intro D h tk xs g2 nw hyl T2 F2 B2 N2 o1 hJ
      obtain ⟨i', tJ, nJ, rs, ds, rfl, h0', hds, a1, a2, a3, a4, a5, a6, a7, a8⟩ := hJ
      have o2 := off1_all o1
      have w3 : OffR D rs := ⟨AllNe.mem o2.2.2.2.2.2.2.2.2⟩
      have hxl : xs.length ≤ 4 := by omega
      have hxs : xs.toArray.size = xs.length := rfl
      have X2 := S.X.keeps B2.stays
      have TT2 := S.T.keeps B2.stays
      clear hR hyl o1
      (try dsimp only)
      revert TT2; revert X2; revert hxs; revert hxl; revert w3; revert o2; revert a8; revert a7; revert a6; revert a5; revert a4; revert a3; revert a2; revert a1; revert hds; revert h0'; revert N2; revert B2; revert F2; revert T2; revert T0; revert e2; revert e1; revert hrg; revert hL; revert hg; revert k; revert hold; revert hu; revert hn; revert hi; revert hrn; revert D5; revert D4; revert D3; revert D2; revert D1; revert D0; revert Y2; revert Y1; revert H; revert Rm; revert S
      exact kHc prog w s base outer mean mg mb R u du f df rc nb ui fi b r i t tp n rn vs ns pl dp gd un g L' h₁ tk₁ c1 c2 D h tk xs g2 i' tJ nJ rs ds
noncomputable def seqD_q (x : ((((((Program × World) × Shared) × ((Heap × List Env) × (ExcName → Option Value))) × ((((Str → Option Value) × (Str → Option Value)) × (Result → Shared → Prop)) × ((Addr × Addr) × Addr))) × ((((Addr × Addr) × Addr) × ((UI × FI) × Addr)) × (((Addr × Int) × Tok) × (Tok × Nat)))) × (((((Nat × List Value) × List Int) × ((Bool × Nat) × Option (List Code))) × (((Nat × Heap) × Addr) × ((Heap × Nat) × Obj))) × ((((Obj × Addr) × Heap) × ((Nat × List Value) × Heap)) × (((Int × Tok) × Nat) × (List (Addr × Obj) × List PyData)))))) : Prop := seqD_s.1 x.1.1.1.1.1.1 x.1.1.1.1.1.2 x.1.1.1.1.2 x.1.1.1.2.1.1 x.1.1.1.2.1.2 x.1.1.1.2.2 x.1.1.2.1.1.1 x.1.1.2.1.1.2 x.1.1.2.1.2 x.1.1.2.2.1.1 x.1.1.2.2.1.2 x.1.1.2.2.2 x.1.2.1.1.1.1 x.1.2.1.1.1.2 x.1.2.1.1.2 x.1.2.1.2.1.1 x.1.2.1.2.1.2 x.1.2.1.2.2 x.1.2.2.1.1.1 x.1.2.2.1.1.2 x.1.2.2.1.2 x.1.2.2.2.1 x.1.2.2.2.2 x.2.1.1.1.1.1 x.2.1.1.1.1.2 x.2.1.1.1.2 x.2.1.1.2.1.1 x.2.1.1.2.1.2 x.2.1.1.2.2 x.2.1.2.1.1.1 x.2.1.2.1.1.2 x.2.1.2.1.2 x.2.1.2.2.1.1 x.2.1.2.2.1.2 x.2.1.2.2.2 x.2.2.1.1.1.1 x.2.2.1.1.1.2 x.2.2.1.1.2 x.2.2.1.2.1.1 x.2.2.1.2.1.2 x.2.2.1.2.2 x.2.2.2.1.1.1 x.2.2.2.1.1.2 x.2.2.2.1.2 x.2.2.2.2.1 x.2.2.2.2.2
noncomputable def seqD_c := @Classical.epsilon _ ⟨((((((PySem.Challenge.pw_sa0211_01, aWorld 1), {}), (({}, []), fun _ => none)), (((fun _ => none, fun _ => none), fun _ _ => True), ((0, 0), 0))), ((((0, 0), 0), ((⟨0, 0, 0, 0, .none, .none⟩, ⟨0, 0, 0, 0, 0, 0, 0, 0, 0, 0, Str.ofString "", Str.ofString "", 0⟩), 0)), (((0, 0), 0), (0, 0)))), (((((0, []), []), ((true, 0), none)), (((0, {}), 0), (({}, 0), instObj 0 0))), ((((instObj 0 0, 0), {}), ((0, []), {})), (((0, 0), 0), ([], [])))))⟩ fun x => ¬ seqD_q x
noncomputable def seqE_s : (Rq : Program → World → Shared → Heap → List Env → (ExcName → Option Value) → (Str → Option Value) → (Str → Option Value) → (Result → Shared → Prop) → Addr → Addr → Addr → Addr → Addr → Addr → UI → FI → Addr → Addr → Int → Tok → Tok → Nat → Nat → List Value → List Int → Bool → Nat → Option (List Code) → Nat → Heap → Addr → Obj → Obj → Addr → List Value → Int → Tok → Nat → List (Addr × Obj) → List PyData → Heap → Nat → (Str → Option Value) → Heap → Nat → Tok → Prop) ×' ((∀ (prog : Program) (w : World) (s : Shared) (base : Heap) (outer : List Env) (mean : ExcName → Option Value) (mg : Str → Option Value) (mb : Str → Option Value) (R : Result → Shared → Prop) (u : Addr) (du : Addr) (f : Addr) (df : Addr) (rc : Addr) (nb : Addr) (ui : UI) (fi : FI) (b : Addr) (r : Addr) (i : Int) (t : Tok) (tp : Tok) (n : Nat) (rn : Nat) (vs : List Value) (ns : List Int) (pl : Bool) (dp : Nat) (gd : Option (List Code)) (un : Nat) (g : Heap) (L' : Addr) (c1 : Obj) (c2 : Obj) (D : Addr) (xs : List Value) (i' : Int) (tJ : Tok) (nJ : Nat) (rs : List (Addr × Obj)) (ds : List PyData) (h3 : Heap) (tk3 : Nat) (m₁ : Str → Option Value) (g3 : Heap) (cap : Nat) (tz : Tok), Rq prog w s base outer mean mg mb R u du f df rc nb ui fi b r i t tp n rn vs ns pl dp gd un g L' c1 c2 D xs i' tJ nJ rs ds h3 tk3 m₁ g3 cap tz) → seqD_q seqD_c) := by
  refine ⟨?Rq, fun kHc => ?pfq⟩
  case pfq =>
    refine (?fq : ∀ (prog : Program) (w : World) (s : Shared) (base : Heap) (outer : List Env) (mean : ExcName → Option Value) (mg : Str → Option Value) (mb : Str → Option Value) (R : Result → Shared → Prop) (u : Addr) (du : Addr) (f : Addr) (df : Addr) (rc : Addr) (nb : Addr) (ui : UI) (fi : FI) (b : Addr) (r : Addr) (i : Int) (t : Tok) (tp : Tok) (n : Nat) (rn : Nat) (vs : List Value) (ns : List Int) (pl : Bool) (dp : Nat) (gd : Option (List Code)) (un : Nat) (g : Heap) (L' : Addr) (h₁ : Heap) (tk₁ : Nat) (c1 : Obj) (c2 : Obj) (D : Addr) (h : Heap) (tk : Nat) (xs : List Value) (g2 : Heap) (i' : Int) (tJ : Tok) (nJ : Nat) (rs : List (Addr × Obj)) (ds : List PyData), seqD_s.1 prog w s base outer mean mg mb R u du f df rc nb ui fi b r i t tp n rn vs ns pl dp gd un g L' h₁ tk₁ c1 c2 D h tk xs g2 i' tJ nJ rs ds) _ _ _ _ _ _ _ _ _ _ _ _ _ _ _ _ _ _ _ _ _ _ _ _ _ _ _ _ _ _ _ _ _ _ _ _ _ _ _ _ _ _ _ _ _ _ 
    intro prog w s base outer mean mg mb R u du f df rc nb ui fi b r i t tp n rn vs ns pl dp gd un g L' h₁ tk₁ c1 c2 D h tk xs g2 i' tJ nJ rs ds S Rm H Y1 Y2 D0 D1 D2 D3 D4 D5 hrn hi hn hu hold k hg hL hrg e1 e2 T0 T2 F2 B2 N2 h0' hds a1 a2 a3 a4 a5 a6 a7 a8 o2 w3 hxl hxs X2 TT2
    (try dsimp only)
    k_steps
    unfold Halt
    refine For_M B2 F2 (by rfl) (by rfl) (by rfl) ?_
    k_steps
    refine ⟨_, _, _, fun j m₁ gq nw => ∃ cap tz, nw = (D, listOf xs.toArray xs.length) :: (L' + 1 + 1, c1) :: (L' + 1, c2) :: (u, instObj 142 du) :: (du, unitD w ui f (.int (j : Int) tz)) :: (f, instObj 100 df) :: (df, fileD w fi "SEQUENTIAL" rc nb) :: (rc, listOf (xs.take j).toArray cap) :: (b, listOf #[.ref r, .int i' tJ] nJ) :: rs ∧ m₁ "unit" = some (.ref u) ∧ m₁ "rows" = some (.ref D),
      _, rfl, F2, B2, N2, ⟨_, _, rfl, rfl, rfl⟩, .inr ⟨D, xs.toArray, rfl, ⟨_, N2.get (by k_mem), rfl, _, rfl⟩, rfl, rfl, ?keep⟩, ?turn2, ?done2⟩
    case keep =>
      rintro j m₁ g3 nw h ⟨cap, tz, rfl, _⟩ _ N'
      exact ⟨_, N'.get (by k_mem), rfl, _, rfl⟩
    case turn2 =>
      intro j m₁ g3 nw v I oI h3 tk3 hj hP T3 F3 B3 N3 oI1 hJ
      obtain ⟨cap, tz, rfl, m1, m2⟩ := hJ
      have hjl : j < xs.length := by simpa using hj
      replace hP : xs[j]? = some v := by simpa using hP
      have hlt : (xs.take j).length = j := by simp; omega
      have hlt2 : (xs.take j).toArray.size = j := by simp; omega
      have hm : (fun y => if y = PySem.Str.ofString "row" then some v else m₁ y) = fun y => if y = PySem.Str.ofString "unit" then some (.ref u) else if y = PySem.Str.ofString "rows" then some (.ref D) else (if y = PySem.Str.ofString "row" then some v else m₁ y) := by
        funext y
        by_cases y1 : y = PySem.Str.ofString "unit"
        · subst y1; exact m1
        · by_cases y2 : y = PySem.Str.ofString "rows"
          · subst y2; exact m2
          · simp only [y1, y2, if_false]
      rw [hm] at F3
      clear hm m1 m2
      have X3 := S.X.keeps B3.stays
      have TT3 := S.T.keeps B3.stays
      have w4 : OffR I rs := ⟨AllNe.mem oI1.2.2.2.2.2.2.2.2.2⟩
      k_steps
      (rename Fr _ _ _ _ => F9)
      (rename News _ _ _ _ => N9)
      have e9 : List.take (j : Int).toNat (xs.take j) ++ [v] = xs.take (j + 1) := by
        rw [Int.toNat_natCast, List.take_take, Nat.min_self, List.take_add_one, hP]; rfl
      rw [e9] at N9
      refine' ⟨_, _, _, g3, (D, listOf xs.toArray xs.length) :: (L' + 1 + 1, c1) :: (L' + 1, c2) :: (u, instObj 142 du) :: (du, unitD w ui f (.int ((j + 1 : Nat) : Int) _)) :: (f, instObj 100 df) :: (df, fileD w fi "SEQUENTIAL" rc nb) :: (rc, listOf (xs.take (j + 1)).toArray _) :: (b, listOf #[.ref r, .int i' tJ] nJ) :: rs, rfl, T3, F9, B3, news_sub N9 ?sub, oI1, _, _, rfl, rfl, rfl⟩
      case sub => walk_at "my_sub"
    case done2 =>
      intro h3 tk3 m₁ g3 nw T3 F3 B3 N3 hJ
      obtain ⟨cap, tz, rfl, m1, m2⟩ := hJ
      rw [show xs.toArray.size = xs.length from rfl, List.take_length] at N3
      have hm : m₁ = fun y => if y = PySem.Str.ofString "unit" then some (.ref u) else if y = PySem.Str.ofString "rows" then some (.ref D) else m₁ y := by
        funext y
        by_cases y1 : y = PySem.Str.ofString "unit"
        · subst y1; exact m1
        · by_cases y2 : y = PySem.Str.ofString "rows"
          · subst y2; exact m2
          · simp only [y1, y2, if_false]
      rw [hm] at F3
      clear hm m1 m2
      have X3 := S.X.keeps B3.stays
      have TT3 := S.T.keeps B3.stays
      have T03 := T2.trans T3
      have hrg3 := isList_turn T03 hrg
      clear T3 T2
      (try dsimp only)
      revert TT3; revert X3; revert hxs; revert hxl; revert w3; revert o2; revert a8; revert a7; revert a6; revert a5; revert a4; revert a3; revert a2; revert a1; revert hds; revert h0'; revert N3; revert B3; revert F3; revert T03; revert e2; revert e1; revert hrg; revert hL; revert hg; revert k; revert hold; revert hu; revert hn; revert hi; revert hrn; revert D5; revert D4; revert D3; revert D2; revert D1; revert D0; revert Y2; revert Y1; revert H; revert Rm; revert S
      exact kHc prog w s base outer mean mg mb R u du f df rc nb ui fi b r i t tp n rn vs ns pl dp gd un g L' c1 c2 D xs i' tJ nJ rs ds h3 tk3 m₁ g3 cap tz
noncomputable def seqE_q (x : ((((((Program × World) × Shared) × ((Heap × List Env) × (ExcName → Option Value))) × ((((Str → Option Value) × (Str → Option Value)) × (Result → Shared → Prop)) × ((Addr × Addr) × Addr))) × ((((Addr × Addr) × Addr) × ((UI × FI) × Addr)) × (((Addr × Int) × Tok) × ((Tok × Nat) × Nat)))) × (((((List Value × List Int) × Bool) × ((Nat × Option (List Code)) × Nat)) × (((Heap × Addr) × Obj) × ((Obj × Addr) × List Value))) × ((((Int × Tok) × Nat) × ((List (Addr × Obj) × List PyData) × Heap)) × (((Nat × (Str → Option Value)) × Heap) × (Nat × Tok)))))) : Prop := seqE_s.1 x.1.1.1.1.1.1 x.1.1.1.1.1.2 x.1.1.1.1.2 x.1.1.1.2.1.1 x.1.1.1.2.1.2 x.1.1.1.2.2 x.1.1.2.1.1.1 x.1.1.2.1.1.2 x.1.1.2.1.2 x.1.1.2.2.1.1 x.1.1.2.2.1.2 x.1.1.2.2.2 x.1.2.1.1.1.1 x.1.2.1.1.1.2 x.1.2.1.1.2 x.1.2.1.2.1.1 x.1.2.1.2.1.2 x.1.2.1.2.2 x.1.2.2.1.1.1 x.1.2.2.1.1.2 x.1.2.2.1.2 x.1.2.2.2.1.1 x.1.2.2.2.1.2 x.1.2.2.2.2 x.2.1.1.1.1.1 x.2.1.1.1.1.2 x.2.1.1.1.2 x.2.1.1.2.1.1 x.2.1.1.2.1.2 x.2.1.1.2.2 x.2.1.2.1.1.1 x.2.1.2.1.1.2 x.2.1.2.1.2 x.2.1.2.2.1.1 x.2.1.2.2.1.2 x.2.1.2.2.2 x.2.2.1.1.1.1 x.2.2.1.1.1.2 x.2.2.1.1.2 x.2.2.1.2.1.1 x.2.2.1.2.1.2 x.2.2.1.2.2 x.2.2.2.1.1.1 x.2.2.2.1.1.2 x.2.2.2.1.2 x.2.2.2.2.1 x.2.2.2.2.2
noncomputable def seqE_c := @Classical.epsilon _ ⟨((((((PySem.Challenge.pw_sa0211_01, aWorld 1), {}), (({}, []), fun _ => none)), (((fun _ => none, fun _ => none), fun _ _ => True), ((0, 0), 0))), ((((0, 0), 0), ((⟨0, 0, 0, 0, .none, .none⟩, ⟨0, 0, 0, 0, 0, 0, 0, 0, 0, 0, Str.ofString "", Str.ofString "", 0⟩), 0)), (((0, 0), 0), ((0, 0), 0)))), ((((([], []), true), ((0, none), 0)), ((({}, 0), instObj 0 0), ((instObj 0 0, 0), []))), ((((0, 0), 0), (([], []), {})), (((0, fun _ => none), {}), (0, 0)))))⟩ fun x => ¬ seqE_q x
theorem seqE_k : seqE_q seqE_c := by
  refine (?fq : ∀ (prog : Program) (w : World) (s : Shared) (base : Heap) (outer : List Env) (mean : ExcName → Option Value) (mg : Str → Option Value) (mb : Str → Option Value) (R : Result → Shared → Prop) (u : Addr) (du : Addr) (f : Addr) (df : Addr) (rc : Addr) (nb : Addr) (ui : UI) (fi : FI) (b : Addr) (r : Addr) (i : Int) (t : Tok) (tp : Tok) (n : Nat) (rn : Nat) (vs : List Value) (ns : List Int) (pl : Bool) (dp : Nat) (gd : Option (List Code)) (un : Nat) (g : Heap) (L' : Addr) (c1 : Obj) (c2 : Obj) (D : Addr) (xs : List Value) (i' : Int) (tJ : Tok) (nJ : Nat) (rs : List (Addr × Obj)) (ds : List PyData) (h3 : Heap) (tk3 : Nat) (m₁ : Str → Option Value) (g3 : Heap) (cap : Nat) (tz : Tok), seqE_s.1 prog w s base outer mean mg mb R u du f df rc nb ui fi b r i t tp n rn vs ns pl dp gd un g L' c1 c2 D xs i' tJ nJ rs ds h3 tk3 m₁ g3 cap tz) _ _ _ _ _ _ _ _ _ _ _ _ _ _ _ _ _ _ _ _ _ _ _ _ _ _ _ _ _ _ _ _ _ _ _ _ _ _ _ _ _ _ _ _ _ _ _ 
  intro prog w s base outer mean mg mb R u du f df rc nb ui fi b r i t tp n rn vs ns pl dp gd un g L' c1 c2 D xs i' tJ nJ rs ds h3 tk3 m₁ g3 cap tz S Rm H Y1 Y2 D0 D1 D2 D3 D4 D5 hrn hi hn hu hold k hg hL hrg e1 e2 T03 F3 B3 N3 h0' hds a1 a2 a3 a4 a5 a6 a7 a8 o2 w3 hxl hxs X3 TT3
  (try dsimp only)
  k_steps
  unfold Halt
  intro h4 tk4 tz4 T4a D4a cap4 ta4 g4 T4 F4 B4 N4 p4 p5 p6
  have X4 := S.X.keeps B4.stays
  have TT4 := S.T.keeps B4.stays
  have hrg4 := isList_turn T4 hrg
  (try dsimp only at N4)
  k_steps
  unfold Halt
  intro h4b tk4b t4b plc tpl n4b F4b N4b h04b hpl0 hpl1
  (try dsimp only at N4b)
  k_steps
  unfold Halt
  intro h5r tk5r i5 t5 n5 v5 d5 rs5 F5r N5r h05 hsub5 hrec5 hne5 hdep5 htr5
  (try dsimp only at N5r)
  replace hds := hds.mono hsub5
  replace a1 := htr5 _ _ (by k_mem) a1
  replace a2 := htr5 _ _ (by k_mem) a2
  replace a3 := htr5 _ _ (by k_mem) a3
  replace a4 := htr5 _ _ (by k_mem) a4
  replace a5 := htr5 _ _ (by k_mem) a5
  replace a6 := htr5 _ _ (by k_mem) a6
  replace a7 := htr5 _ _ (by k_mem) a7
  replace a8 := htr5 _ _ (by k_mem) a8
  replace w3 := htr5 _ _ (by k_mem) w3
  k_steps
  unfold Halt
  intro h5 tk5 tz5 g5 T5 F5 B5 N5
  have X5 := S.X.keeps B5.stays
  have TT5 := S.T.keeps B5.stays
  have hrg5 := isList_turn T5 hrg
  (try dsimp only at N5)
  have hlp : (xs.take plc.toNat).length = plc.toNat := by simp; omega
  have hz2 : (xs.take plc.toNat ++ [v5]).length = plc.toNat + 1 := by rw [List.length_append, hlp]; rfl
  have hz3 : (xs.take plc.toNat ++ [v5]).toArray.size = plc.toNat + 1 := hz2
  have hx2 := RecDs.snoc hrec5 hne5 hdep5 (hds.take plc.toNat)
  k_steps
  unfold Halt
  intro h6 tk6 v6 g6 p6' tz6 T6 F6 B6 N6 hv6
  have X6 := S.X.keeps B6.stays
  have TT6 := S.T.keeps B6.stays
  have hrg6 := isList_turn T6 hrg
  (try dsimp only at N6)
  rcases hv6 with ⟨hp6, _, _⟩ | ⟨hp6, ⟨te6, rfl⟩, rfl⟩ | ⟨hp6, _, _⟩
  · omega
  · k_steps
    unfold Halt
    intro h7 tk7 tz7 T7a D7a cap7 ta7 g7 T7 F7 B7 N7 q4 q5 q6
    have X7 := S.X.keeps B7.stays
    have TT7 := S.T.keeps B7.stays
    have hrg7 := isList_turn T7 hrg
    (try dsimp only at N7)
    k_steps
    unfold Halt
    intro h8 tk8 t8 pm tpm n8 F8 N8 h08 hpm0 hpm1
    (try dsimp only at N8)
    k_steps
    unfold Halt
    intro h9 tk9 tz9 g9 T9 F9 B9 N9
    have X9 := S.X.keeps B9.stays
    have TT9 := S.T.keeps B9.stays
    (try dsimp only at N9)
    have hl3 : (List.take pm.toNat (List.take plc.toNat xs ++ [v5])).length = pm.toNat := by rw [List.length_take, hz2]; omega
    have hl3s : (List.take pm.toNat (List.take plc.toNat xs ++ [v5])).toArray.size = pm.toNat := hl3
    have hx3 := hx2.take pm.toNat
    k_steps
    unfold Halt
    intro h10 tk10 tz10 g10 T10 F10 B10 N10
    have X10 := S.X.keeps B10.stays
    have TT10 := S.T.keeps B10.stays
    (try dsimp only at N10)
    k_steps
    unfold Halt
    intro h11 tk11 tz11 T11a D11a cap11 ta11 g11 T11 F11 B11 N11 r4 r5 r6
    have X11 := S.X.keeps B11.stays
    have TT11 := S.T.keeps B11.stays
    (try dsimp only at N11)
    k_steps
    unfold Halt
    have hx4 := RecDs.snoc hrec5 hne5 hdep5 (hx3.take pm.toNat)
    clear hx3 hx2
    have hl4 : (List.take pm.toNat (List.take pm.toNat (List.take plc.toNat xs ++ [v5])) ++ [v5]).length = pm.toNat + 1 := by rw [List.length_append, List.length_take, hl3]; simp
    (rename News _ _ _ _ => N12)
    rw [show ((List.take pm.toNat (List.take plc.toNat xs ++ [v5])).length : Int) + 1 - 1 = pm by omega] at N12
    k_steps
    unfold Halt
    intro h13 tk13 tz13 T13a D13a cap13 ta13 g13 T13 F13 B13 N13 s4 s5 s6
    have X13 := S.X.keeps B13.stays
    have TT13 := S.T.keeps B13.stays
    (try dsimp only at N13)
    rw [List.take_take, Nat.min_self] at N13 hx4 hl4
    k_steps
    (try show R (.ok (.ret _)) _)
    (rename Fr _ _ _ _ => F14)
    (rename News _ _ _ _ => N14)
    refine k _ _ _ _ _ _ rs5 _ _ _ (step_cut (end1 hold T13 F14) H ?_) (N14.get (by k_mem)) (N14.get (by k_mem)) (N14.get (by k_mem)) h08 ?pos ?le (fun q hq => ?fresh) hx4
    · walk_at "my_ro"
    · rw [hl4]; omega
    · rw [hl4]; omega
    · have hm := N14 q (by (repeat refine List.Mem.tail _ ?_); exact hq)
      exact ⟨hm.1, fresh_in1 hold T13 N14 (by (repeat refine List.Mem.tail _ ?_); exact hq) (List.forall_mem_cons.mpr ⟨Ne.symm (a3.all q hq), List.forall_mem_cons.mpr ⟨Ne.symm (a4.all q hq), List.forall_mem_cons.mpr ⟨Ne.symm (a5.all q hq), List.forall_mem_cons.mpr ⟨Ne.symm (a6.all q hq), List.forall_mem_cons.mpr ⟨Ne.symm (a7.all q hq), List.forall_mem_cons.mpr ⟨Ne.symm (a8.all q hq), fun _ h => nomatch h⟩⟩⟩⟩⟩⟩)⟩
  · omega
theorem seqD_k : seqD_q seqD_c :=
  seqE_s.2 fun prog w s base outer mean mg mb R u du f df rc nb ui fi b r i t tp n rn vs ns pl dp gd un g L' c1 c2 D xs i' tJ nJ rs ds h3 tk3 m₁ g3 cap tz => hk_ax (P := seqE_q) _ seqE_k ((((((prog, w), s), ((base, outer), mean)), (((mg, mb), R), ((u, du), f))), ((((df, rc), nb), ((ui, fi), b)), (((r, i), t), ((tp, n), rn)))), (((((vs, ns), pl), ((dp, gd), un)), (((g, L'), c1), ((c2, D), xs))), ((((i', tJ), nJ), ((rs, ds), h3)), (((tk3, m₁), g3), (cap, tz)))))
theorem seq_k : seq_q seq_c :=
  seqD_s.2 fun prog w s base outer mean mg mb R u du f df rc nb ui fi b r i t tp n rn vs ns pl dp gd un g L' h₁ tk₁ c1 c2 D h tk xs g2 i' tJ nJ rs ds => hk_ax (P := seqD_q) _ seqD_k ((((((prog, w), s), ((base, outer), mean)), (((mg, mb), R), ((u, du), f))), ((((df, rc), nb), ((ui, fi), b)), (((r, i), t), (tp, n)))), (((((rn, vs), ns), ((pl, dp), gd)), (((un, g), L'), ((h₁, tk₁), c1))), ((((c2, D), h), ((tk, xs), g2)), (((i', tJ), nJ), (rs, ds)))))
theorem seq  {pl : Bool} (S : St w mean mg mb base) (B : Below A base outer s.heap) (Rm : Room A 14) (H : Has base outer s.heap [(u, instObj 142 du), (du, unitD w ui f (.int 0 tp)), (f, instObj 100 df), (df, fileD w fi "SEQUENTIAL" rc nb), (rc, listOf #[] rn), (b, listOf #[.ref r, .int i t] n)]) (D : Dist [(u, instObj 142 du), (du, unitD w ui f (.int 0 tp)), (f, instObj 100 df), (df, fileD w fi "SEQUENTIAL" rc nb), (rc, listOf #[] rn), (b, listOf #[.ref r, .int i t] n)])
    (hr : s.heap.IsList r vs.toArray) (hrn : AllNe r [(u, instObj 142 du), (du, unitD w ui f (.int 0 tp)), (f, instObj 100 df), (df, fileD w fi "SEQUENTIAL" rc nb), (rc, listOf #[] rn), (b, listOf #[.ref r, .int i t] n)]) (hi : IntsAre vs ns) (hn : ns.length ≤ 60) (h0 : 0 ≤ i)
    (k : ∀ h' tk tz xs ds cap rs i' t' n', Step (fs outer) [du, rc, b] s.heap h' → h'.get? du = some (unitD w ui f (.int ((xs.length : Int) + 1) tz)) → h'.get? rc = some (listOf xs.toArray cap) → h'.get? b = some (listOf #[.ref r, .int i' t'] n') → 0 ≤ i' → 0 < xs.length → xs.length ≤ 8 →
      (∀ q ∈ rs, h'.get? q.1 = some q.2 ∧ s.heap.get? q.1 = none) → RecDs rs xs ds → R (.ok (.ret (.bool true))) { s with heap := h', toks := tk }) :
    codeAny (model prog w) A (.call (.ref 333) ⟨[.ref b, .ref u, .bool pl], []⟩) R s :=
  seq_s.2 (fun prog w s base outer mean mg mb R u du f df rc nb ui fi b r i t tp n rn vs ns pl dp gd un g L' h₁ tk₁ c1 c2 => hk_ax (P := seq_q) _ seq_k ((((((prog, w), s), (base, outer)), ((mean, mg), (mb, R))), ((((u, du), f), (df, rc)), ((nb, ui), (fi, b)))), (((((r, i), t), (tp, n)), ((rn, vs), (ns, pl))), ((((dp, gd), un), (g, L')), ((h₁, tk₁), (c1, c2)))))) A prog w s base outer mean mg mb R u du f df rc nb ui fi b r i t tp n rn vs ns pl S B Rm H D hr hrn hi hn h0 k
end
end
section
open PySem PySem.W PyProof.Rows PySem.Spec PySem.Calls PyProof.Rows.LCg PySem.SeqAt
theorem line_M29_1 : True := by
  k_with_none
  w_top off
  k_with "my:k_mem" => (first | exact m0_ | exact m1_ | exact m2_ | exact m3_ | exact m4_ | exact m5_ | exact m6_ | exact m7_ | (refine m8s_ ?_; k_mem))
  k_with "my:k_ne" => (((try dsimp only); first
  | exact AllNe.mem (by assumption) (_, _) (by k_mem)
  | exact Ne.symm (AllNe.mem (by assumption) (_, _) (by k_mem))
  | assumption
  | exact Ne.symm (by assumption)
  | exact Nat.ne_of_lt (lt_at (by assumption) (by k_mem))
  | exact Nat.ne_of_gt (lt_at (by assumption) (by k_mem))
  | (refine neN ?_; omega)))
  k_with "my_enter" => ((
  (case ho => k_is)
  (case hcd => k_is)
  (case hbind => exact BindsTo.of_eq rfl)
  (case hloc => exact locs rfl)
  (case hco => exact rfl)
  (case hgen => exact rfl)
  (case hk => exact rfl)
  (case hcell => decide)))
  k_with "my_dist" => (((simp only [Dist, AllNe, and_true]); (repeat' (refine And.intro ?_ ?_)); all_goals k_ne))
  k_with "my_bs" => (first | exact List.forall_mem_nil _ | (refine List.forall_mem_cons.mpr ⟨⟨⟨_, by k_mem⟩, ⟨by k_ne, by k_ne⟩⟩, ?_⟩; walk_at "my_bs"))
  k_with "my_bs0" => (first | exact List.forall_mem_nil _ | (refine List.forall_mem_cons.mpr ⟨⟨_, by k_mem⟩, ?_⟩; walk_at "my_bs0"))
  k_with "my_ro" => (first | exact List.forall_mem_nil _ | (refine List.forall_mem_cons.mpr ⟨?aZ, ?bZ⟩; (case aZ => first | exact fun _ => News.get (by k_asm) (by k_mem) | exact fun hn => absurd (by simp) hn); (case bZ => walk_at "my_ro")))
  k_with "exec Raise some none" => ((k_here; (with_reducible show wpAny _ _ (exec (Stmt.Raise (some (Expr.Call (Expr.Name (PySem.Str.ofString "IoFault") _) _ _ _)) none _) _) _ _ _); k_dflt (refine' raise_K (C := 51) ?XZ ?KZ ?bZ ?tZ ?hZ ?_; (case XZ => k_asm); (case KZ => k_is); (case bZ => rfl); (case tZ => rfl); (case hZ => first | exact rfl | exact Room.hand (by assumption)); k_whole)))
  k_with "exec Raise some none" => ((k_here; (with_reducible show wpAny _ _ (exec (Stmt.Raise (some (Expr.Call (Expr.Name (PySem.Str.ofString "EndFault") _) _ _ _)) none _) _) _ _ _); k_dflt (refine' raise_K (C := 70) ?XZ ?KZ ?bZ ?tZ ?hZ ?_; (case XZ => k_asm); (case KZ => k_is); (case bZ => rfl); (case tZ => rfl); (case hZ => first | exact rfl | exact Room.hand (by assumption)); k_whole)))
  k_with "call ref" => ((k_here; (with_reducible show wpAny _ _ (PySem.call (Value.ref 51) [_, _]) _ _ _); k_dflt (refine' mk51_K ?SZ ?BZ ?FZ ?NZ ?RZ ?_; (case SZ => assumption); (case BZ => assumption); (case FZ => k_asm); (case NZ => k_asm); (case RZ => exact Room.less (by assumption) (by decide)); k_whole); intro h' tk' e' t' d' tx' ty' F' N' l1 l2 l3; (try k_sweep)))
  k_with "call ref" => ((k_here; (with_reducible show wpAny _ _ (PySem.call (Value.ref 70) [_]) _ _ _); k_dflt (refine' mk70_K ?SZ ?BZ ?FZ ?NZ ?RZ ?_; (case SZ => assumption); (case BZ => assumption); (case FZ => k_asm); (case NZ => k_asm); (case RZ => exact Room.less (by assumption) (by decide)); k_whole); intro h' tk' e' t' d' tx' ty' tz' F' N' l1 l2 l3; (try k_sweep)))
  k_with "RaiseMade" => ((k_dflt (refine' raiseMade_ ?XZ ?hZ ?_; (case XZ => k_in); (case hZ => exact News.get (by k_asm) (by k_mem)))))
  k_with "my_enterC" => ((
  (case ho => k_is)
  (case hcd => k_is)
  (case hbind => exact BindsTo.of_eq rfl)
  (case hkind => exact rfl)
  (case hnd => decide +kernel)
  (case hco => exact rfl)
  (case hgen => exact rfl)
  (case hk => exact rfl)))
  k_with "my:k_all" => (exact OffR.all (by assumption))
  k_with "my_sub" => (first | exact List.forall_mem_nil _ | (refine List.forall_mem_cons.mpr ⟨?aZ, ?bZ⟩; (case aZ => k_mem); (case bZ => walk_at "my_sub")) | exact fun _ hq => by ((repeat refine List.Mem.tail _ ?_); exact hq))
  k_with "my_mems" => (first | exact List.forall_mem_nil _ | (refine List.forall_mem_cons.mpr ⟨?aZ, ?bZ⟩; (case aZ => k_mem); (case bZ => walk_at "my_mems")))
  k_with "my_allne" => (((simp only [AllNe, and_true]); (repeat' (refine And.intro ?_ ?_)); all_goals k_ne))
  k_with "my_ro" => (first | exact List.forall_mem_nil _ | (refine List.forall_mem_cons.mpr ⟨?aZ, ?bZ⟩; (case aZ => first | exact fun _ => News.get (by k_asm) (by k_mem) | exact fun hn => absurd (by simp) hn); (case bZ => walk_at "my_ro")) | exact fun _ hq _ => News.get (by k_asm) (by ((repeat refine List.Mem.tail _ ?_); exact hq)))
  k_with "my_bsne" => (first | exact List.forall_mem_nil _ | (refine List.forall_mem_cons.mpr ⟨?aZ, ?bZ⟩; (case aZ => k_ne); (case bZ => walk_at "my_bsne")) | exact OffR.all (by assumption))
  k_with "eval ListComp" => (refine halt ?_)
  k_with "exec While Compare" => (refine halt ?_)
  k_with "exec For" => (refine halt ?_)
  k_with "exec For Name Name cons nil" => (refine halt ?_)
  k_with "exec For Name Call cons nil" => (refine halt ?_)
  trivial
noncomputable abbrev storeD (w : World) (k : Tok) (sf : Addr) : Obj := dictOf [⟨PyData.keyHash w.params "files", .str "files" k, .ref sf⟩] 1
section
variable {prog : Program} {w : World} {A : Around} {s : Shared} {base : Heap} {outer : List Env} {mean : ExcName → Option Value} {mg mb : Str → Option Value}
  {R : Result → Shared → Prop} {x dx : Addr}
theorem initStore (S : St w mean mg mb base) (B : Below A base outer s.heap) (Rm : Room A 2) (H : Has base outer s.heap [(x, instObj 121 dx), (dx, dictOf [] 0)]) (D : Dist [(x, instObj 121 dx), (dx, dictOf [] 0)])
    (k : ∀ h' tk kf sf so, Step [] [dx] s.heap h' → h'.get? dx = some (storeD w kf sf) → h'.get? sf = some so → so.IsDictOf (PySem.strKind prog w) [] → (sf == sysModules) = false → s.heap.get? sf = none → R (.ok (.ret .none)) { s with heap := h', toks := tk }) :
    codeAny (model prog w) A (.call (.ref 118) ⟨[.ref x], []⟩) R s := by
  obtain ⟨ha, dp, fr, gd, un⟩ := A
  obtain rfl : ha = none := Rm.han
  obtain rfl : fr = some outer := B.stack
  refine' enter [(x, instObj 121 dx), (dx, dictOf [] 0)] S B Rm.d H ?ho ?hcd ?hbind ?hloc ?h ?hco ?hgen ?hk ?hcell
  walk_at "my_enter"
  intro g L' h₁ F N B' X T hold hg hL
  have T0 : KtsTurn (fs outer) g g := KtsTurn.refl
  obtain ⟨D0, D1, _⟩ := D
  dsimp only
  try k_fold
  k_steps
  (try show R (.ok (.ret _)) _)
  (rename Fr _ _ _ _ => F9)
  (rename News _ _ _ _ => N9)
  exact k _ _ _ _ _ (step_cut (end0 hold F9) H (by walk_at "my_ro")) (N9.get (by k_mem)) (N9.get (by k_mem)) (by assumption) (by assumption) (fresh_in hold N9 (by k_mem) (List.forall_mem_cons.mpr ⟨by k_ne, List.forall_mem_cons.mpr ⟨by k_ne, fun _ h => nomatch h⟩⟩))
theorem initUnit {f : Addr} {num bl : Value} (S : St w mean mg mb base) (B : Below A base outer s.heap) (Rm : Room A 2) (H : Has base outer s.heap [(x, instObj 142 dx), (dx, dictOf [] 0)]) (D : Dist [(x, instObj 142 dx), (dx, dictOf [] 0)])
    (k : ∀ h' tk ui tp, Step [] [dx] s.heap h' → h'.get? dx = some (unitD w ui f (.int 0 tp)) → R (.ok (.ret .none)) { s with heap := h', toks := tk }) :
    codeAny (model prog w) A (.call (.ref 139) ⟨[.ref x, num, .ref f, bl], []⟩) R s := by
  obtain ⟨ha, dp, fr, gd, un⟩ := A
  obtain rfl : ha = none := Rm.han
  obtain rfl : fr = some outer := B.stack
  refine' enter [(x, instObj 142 dx), (dx, dictOf [] 0)] S B Rm.d H ?ho ?hcd ?hbind ?hloc ?h ?hco ?hgen ?hk ?hcell
  walk_at "my_enter"
  intro g L' h₁ F N B' X T hold hg hL
  have T0 : KtsTurn (fs outer) g g := KtsTurn.refl
  obtain ⟨D0, D1, _⟩ := D
  dsimp only
  try k_fold
  k_steps
  (try show R (.ok (.ret _)) _)
  (rename Fr _ _ _ _ => F9)
  (rename News _ _ _ _ => N9)
  exact k _ _ ⟨_, _, _, _, num, bl⟩ _ (step_cut (end0 hold F9) H (by walk_at "my_ro")) (N9.get (by k_mem))
noncomputable def initFile_s : (Rq : Program → World → Shared → Heap → List Env → (ExcName → Option Value) → (Str → Option Value) → (Str → Option Value) → (Result → Shared → Prop) → Addr → Addr → Tok → Tok → Tok → Tok → Str → Str → Str → Int → Nat → Option (List Code) → Nat → Heap → Addr → Heap → Prop) ×' ((∀ (prog : Program) (w : World) (s : Shared) (base : Heap) (outer : List Env) (mean : ExcName → Option Value) (mg : Str → Option Value) (mb : Str → Option Value) (R : Result → Shared → Prop) (x : Addr) (dx : Addr) (nt : Tok) (at_ : Tok) (ft : Tok) (lt : Tok) (nm : Str) (acc : Str) (fm : Str) (len : Int) (dp : Nat) (gd : Option (List Code)) (un : Nat) (g : Heap) (L' : Addr) (h₁ : Heap), Rq prog w s base outer mean mg mb R x dx nt at_ ft lt nm acc fm len dp gd un g L' h₁) → ∀ (A : Around) (prog : Program) (w : World) (s : Shared) (base : Heap) (outer : List Env) (mean : ExcName → Option Value) (mg : Str → Option Value) (mb : Str → Option Value) (R : Result → Shared → Prop) (x : Addr) (dx : Addr) (nt : Tok) (at_ : Tok) (ft : Tok) (lt : Tok) (nm : Str) (acc : Str) (fm : Str) (len : Int) (S : St w mean mg mb base) (B : Below A base outer s.heap) (Rm : Room A 2) (H : Has base outer s.heap [(x, instObj 100 dx), (dx, dictOf [] 0)]) (D : Dist [(x, instObj 100 dx), (dx, dictOf [] 0)]) (k : ∀ h' tk fi rc rn nb no, fi.nm = nm → fi.fm = fm → fi.len = len → Step [] [dx] s.heap h' → h'.get? dx = some (fileD w fi acc rc nb) → h'.get? rc = some (listOf #[] rn) → h'.get? nb = some no → no.IsDictOf (PySem.intKind prog w) [] → (nb == sysModules) = false → s.heap.get? rc = none → s.heap.get? nb = none → (@Ne Nat rc nb) → R (.ok (.ret .none)) { s with heap := h', toks := tk }), codeAny (model prog w) A (.call (.ref 97) ⟨[.ref x, .str nm nt, .str acc at_, .str fm ft, .int len lt], []⟩) R s) := by
  refine ⟨?Rq, fun kHq A prog w s base outer mean mg mb R x dx nt at_ ft lt nm acc fm len S B Rm H D k => ?pfq⟩
  case pfq =>
    obtain ⟨ha, dp, fr, gd, un⟩ := A
    obtain rfl : ha = none := Rm.han
    obtain rfl : fr = some outer := B.stack
    refine' enter [(x, instObj 100 dx), (dx, dictOf [] 0)] S B Rm.d H ?ho ?hcd ?hbind ?hloc ?h ?hco ?hgen ?hk ?hcell
    walk_at "my_enter"
    intro g L' h₁ F N B' X T hold hg hL
    have T0 : KtsTurn (fs outer) g g := KtsTurn.refl
    obtain ⟨D0, D1, _⟩ := D
    revert D1; revert D0; revert T0; revert hL; revert hg; revert hold; revert T; revert X; revert B'; revert N; revert F; revert k; revert H; revert Rm; revert B; revert S
    exact kHq prog w s base outer mean mg mb R x dx nt at_ ft lt nm acc fm len dp gd un g L' h₁
noncomputable def initFile_q (x : (((((Program × World) × (Shared × Heap)) × ((List Env × (ExcName → Option Value)) × (Str → Option Value))) × ((((Str → Option Value) × (Result → Shared → Prop)) × Addr) × ((Addr × Tok) × Tok))) × ((((Tok × Tok) × Str) × ((Str × Str) × Int)) × (((Nat × Option (List Code)) × Nat) × ((Heap × Addr) × Heap))))) : Prop := initFile_s.1 x.1.1.1.1.1 x.1.1.1.1.2 x.1.1.1.2.1 x.1.1.1.2.2 x.1.1.2.1.1 x.1.1.2.1.2 x.1.1.2.2 x.1.2.1.1.1 x.1.2.1.1.2 x.1.2.1.2 x.1.2.2.1.1 x.1.2.2.1.2 x.1.2.2.2 x.2.1.1.1.1 x.2.1.1.1.2 x.2.1.1.2 x.2.1.2.1.1 x.2.1.2.1.2 x.2.1.2.2 x.2.2.1.1.1 x.2.2.1.1.2 x.2.2.1.2 x.2.2.2.1.1 x.2.2.2.1.2 x.2.2.2.2
noncomputable def initFile_c := @Classical.epsilon _ ⟨(((((PySem.Challenge.pw_sa0211_01, aWorld 1), ({}, {})), (([], fun _ => none), fun _ => none)), (((fun _ => none, fun _ _ => True), 0), ((0, 0), 0))), ((((0, 0), Str.ofString ""), ((Str.ofString "", Str.ofString ""), 0)), (((0, none), 0), (({}, 0), {}))))⟩ fun x => ¬ initFile_q x
theorem initFile_k : initFile_q initFile_c := by
  refine (?fq : ∀ (prog : Program) (w : World) (s : Shared) (base : Heap) (outer : List Env) (mean : ExcName → Option Value) (mg : Str → Option Value) (mb : Str → Option Value) (R : Result → Shared → Prop) (x : Addr) (dx : Addr) (nt : Tok) (at_ : Tok) (ft : Tok) (lt : Tok) (nm : Str) (acc : Str) (fm : Str) (len : Int) (dp : Nat) (gd : Option (List Code)) (un : Nat) (g : Heap) (L' : Addr) (h₁ : Heap), initFile_s.1 prog w s base outer mean mg mb R x dx nt at_ ft lt nm acc fm len dp gd un g L' h₁) _ _ _ _ _ _ _ _ _ _ _ _ _ _ _ _ _ _ _ _ _ _ _ _ _ 
  intro prog w s base outer mean mg mb R x dx nt at_ ft lt nm acc fm len dp gd un g L' h₁ S B Rm H k F N B' X T hold hg hL T0 D0 D1
  dsimp only
  try k_fold
  k_steps
  (try show R (.ok (.ret _)) _)
  (rename Fr _ _ _ _ => F9)
  (rename News _ _ _ _ => N9)
  exact k _ _ ⟨_, _, _, _, _, _, nt, at_, ft, lt, nm, fm, len⟩ _ _ _ _ rfl rfl rfl (step_cut (end0 hold F9) H (by walk_at "my_ro")) (N9.get (by k_mem)) (N9.get (by k_mem)) (N9.get (by k_mem)) (by assumption) (by assumption) (fresh_in hold N9 (by k_mem) (List.forall_mem_cons.mpr ⟨by k_ne, List.forall_mem_cons.mpr ⟨by k_ne, fun _ h => nomatch h⟩⟩)) (fresh_in hold N9 (by k_mem) (List.forall_mem_cons.mpr ⟨by k_ne, List.forall_mem_cons.mpr ⟨by k_ne, fun _ h => nomatch h⟩⟩)) (by k_ne)
theorem initFile  {nt at_ ft lt : Tok} {nm acc fm : Str} {len : Int} (S : St w mean mg mb base) (B : Below A base outer s.heap) (Rm : Room A 2) (H : Has base outer s.heap [(x, instObj 100 dx), (dx, dictOf [] 0)]) (D : Dist [(x, instObj 100 dx), (dx, dictOf [] 0)])
    (k : ∀ h' tk fi rc rn nb no, fi.nm = nm → fi.fm = fm → fi.len = len → Step [] [dx] s.heap h' → h'.get? dx = some (fileD w fi acc rc nb) → h'.get? rc = some (listOf #[] rn) → h'.get? nb = some no → no.IsDictOf (PySem.intKind prog w) [] → (nb == sysModules) = false → s.heap.get? rc = none → s.heap.get? nb = none → (@Ne Nat rc nb) → R (.ok (.ret .none)) { s with heap := h', toks := tk }) :
    codeAny (model prog w) A (.call (.ref 97) ⟨[.ref x, .str nm nt, .str acc at_, .str fm ft, .int len lt], []⟩) R s :=
  initFile_s.2 (fun prog w s base outer mean mg mb R x dx nt at_ ft lt nm acc fm len dp gd un g L' h₁ => hk_ax (P := initFile_q) _ initFile_k (((((prog, w), (s, base)), ((outer, mean), mg)), (((mb, R), x), ((dx, nt), at_))), ((((ft, lt), nm), ((acc, fm), len)), (((dp, gd), un), ((g, L'), h₁))))) A prog w s base outer mean mg mb R x dx nt at_ ft lt nm acc fm len S B Rm H D k
end
section
variable {prog : Program} {w : World} {A : Around} {s : Shared} {base g : Heap} {outer : List Env} {mean : ExcName → Option Value} {mg mb : Str → Option Value}
  {L a : Addr} {m : Str → Option Value} {news : List (Addr × Obj)} {env : Env} {Q E : Value → Shared → Prop} {f : Addr} {nt at_ ft lt nk : Tok} {nm acc fm : Str} {len : Int} {num bl : Value} 
theorem initH (F : Fr g L s.heap m) (B : Below A base outer g) {x dx C : Addr} {h' : Heap} (_F' : Fr g L h' m) (N' : News g L h' ((x, instObj C dx) :: (dx, dictOf [] 0) :: news)) (hf : env.frame = some L) : Has base (env :: outer) h' [(x, instObj C dx), (dx, dictOf [] 0)] :=
  has_ofX hf B N' (List.forall_mem_cons.mpr ⟨.head _, List.forall_mem_cons.mpr ⟨.tail _ (.head _), fun _ h => nomatch h⟩⟩)
theorem initD {x dx C : Addr} (l2 : dx < x) : Dist [(x, instObj C dx), (dx, dictOf [] 0)] := ⟨⟨Nat.ne_of_lt l2, trivial⟩, ⟨trivial, trivial⟩⟩
theorem initU {x dx C : Addr} (l1 : ∀ p ∈ news, p.1 < dx) (l2 : dx < x) : UpdF dx (dictOf [] 0) ((x, instObj C dx) :: (dx, dictOf [] 0) :: news) (fun o => (x, instObj C dx) :: (dx, o) :: news) :=
  .tail (Nat.ne_of_gt l2) (.head fun p hp => Nat.ne_of_lt (l1 p hp))
theorem store_K (S : St w mean mg mb base) (B : Below A base outer g) (F : Fr g L s.heap m) (N : News g L s.heap news) (Rm : Room A 5)
    (kk : ∀ h' tk x d sf so k, Fr g L h' m → News g L h' ((sf, so) :: (x, instObj 121 d) :: (d, storeD w k sf) :: news) → so.IsDictOf (PySem.strKind prog w) [] → (sf == sysModules) = false → AllNe x news → AllNe d news → AllNe sf news → (@Ne Nat x d) → (@Ne Nat x sf) → (@Ne Nat d sf) → Q (.ref x) { s with heap := h', toks := tk })
    (hf : env.frame = some L := by rfl) (hk : env.scope.kind = .function := by rfl) : wpAny (model prog w) (A.deeper env) (call (.ref 121) []) Q E s := by
  have X := S.X.keeps B.stays
  refine' call_cls F X N ?m ?i ?f (fun x dx h' F' N' l1 l2 => ?_)
  case m => k_is
  case i => k_is
  case f => k_is
  refine initStore S (below_under (pushX B F' hf hk) (make_envs _ _)) (room_make (Rm.deeper (by decide))) (initH F B F' N' hf) (initD l2) fun h2 tk kf sf so x1 x2 x3 x4 x5 x6 => ?_
  obtain ⟨F2, N2⟩ := use0 F' N' (initU l1 l2) x1 x2
  have nn := new_ne N' x6
  exact ⟨rfl, kk h2 tk x dx sf so kf F2 (useNew F' x6 x3 N2 (new_none F' x6)) x4 x5 (allNe_of fun p hp => Nat.ne_of_lt (Nat.lt_trans (l1 p hp) l2)) (allNe_of fun p hp => Nat.ne_of_lt (l1 p hp)) nn.2.2 (Nat.ne_of_gt l2) nn.1 nn.2.1⟩
theorem unit_K (S : St w mean mg mb base) (B : Below A base outer g) (F : Fr g L s.heap m) (N : News g L s.heap news) (Rm : Room A 5)
    (kk : ∀ h' tk x d ui tp, Fr g L h' m → News g L h' ((x, instObj 142 d) :: (d, unitD w ui f (.int 0 tp)) :: news) → AllNe x news → AllNe d news → (@Ne Nat x d) → Q (.ref x) { s with heap := h', toks := tk })
    (hf : env.frame = some L := by rfl) (hk : env.scope.kind = .function := by rfl) : wpAny (model prog w) (A.deeper env) (call (.ref 142) [num, .ref f, bl]) Q E s := by
  have X := S.X.keeps B.stays
  refine' call_cls F X N ?m ?i ?f (fun x dx h' F' N' l1 l2 => ?_)
  case m => k_is
  case i => k_is
  case f => k_is
  refine initUnit S (below_under (pushX B F' hf hk) (make_envs _ _)) (room_make (Rm.deeper (by decide))) (initH F B F' N' hf) (initD l2) fun h2 tk ui tp x1 x2 => ?_
  obtain ⟨F2, N2⟩ := use0 F' N' (initU l1 l2) x1 x2
  exact ⟨rfl, kk h2 tk x dx ui tp F2 N2 (allNe_of fun p hp => Nat.ne_of_lt (Nat.lt_trans (l1 p hp) l2)) (allNe_of fun p hp => Nat.ne_of_lt (l1 p hp)) (Nat.ne_of_gt l2)⟩
theorem file_K (S : St w mean mg mb base) (B : Below A base outer g) (F : Fr g L s.heap m) (N : News g L s.heap news) (Rm : Room A 5)
    (kk : ∀ h' tk x d fi rc rn nb no, Fr g L h' m → News g L h' ((nb, no) :: (rc, listOf #[] rn) :: (x, instObj 100 d) :: (d, fileD w fi acc rc nb) :: news) → no.IsDictOf (PySem.intKind prog w) [] → (nb == sysModules) = false → fi.nm = nm → fi.fm = fm → fi.len = len → AllNe x news → AllNe d news → AllNe rc news → AllNe nb news → (@Ne Nat x d) → (@Ne Nat x rc) → (@Ne Nat d rc) → (@Ne Nat x nb) → (@Ne Nat d nb) → (@Ne Nat rc nb) → Q (.ref x) { s with heap := h', toks := tk })
    (hf : env.frame = some L := by rfl) (hk : env.scope.kind = .function := by rfl) : wpAny (model prog w) (A.deeper env) (call (.ref 100) [.str nm nt, .str acc at_, .str fm ft, .int len lt]) Q E s := by
  have X := S.X.keeps B.stays
  refine' call_cls F X N ?m ?i ?f (fun x dx h' F' N' l1 l2 => ?_)
  case m => k_is
  case i => k_is
  case f => k_is
  refine initFile S (below_under (pushX B F' hf hk) (make_envs _ _)) (room_make (Rm.deeper (by decide))) (initH F B F' N' hf) (initD l2) fun h2 tk fi rc rn nb no e1 e2 e3 x1 x2 x3 x4 x5 x6 x7 x8 x9 => ?_
  obtain ⟨F2, N2⟩ := use0 F' N' (initU l1 l2) x1 x2
  have n1 := new_ne N' x7
  have n2 := new_ne N' x8
  exact ⟨rfl, kk h2 tk x dx fi rc rn nb no F2 (useNew F' x8 x4 (useNew F' x7 x3 N2 (new_none F' x7)) (new_none F' x8)) x5 x6 e1 e2 e3 (allNe_of fun p hp => Nat.ne_of_lt (Nat.lt_trans (l1 p hp) l2)) (allNe_of fun p hp => Nat.ne_of_lt (l1 p hp)) n1.2.2 n2.2.2 (Nat.ne_of_gt l2) n1.1 n1.2.1 n2.1 n2.2.1 x9⟩
end
end
section
open PySem PySem.W PyProof.Rows PySem.Spec PySem.Calls PyProof.Rows.LCg PySem.SeqAt
theorem line_M31_1 : True := by
  k_with_none
  w_top off
  k_with "my:k_mem" => (first | exact m0_ | exact m1_ | exact m2_ | exact m3_ | exact m4_ | exact m5_ | exact m6_ | exact m7_ | (refine m8s_ ?_; k_mem))
  k_with "my:k_ne" => (((try dsimp only); first
  | exact AllNe.mem (by assumption) (_, _) (by k_mem)
  | exact Ne.symm (AllNe.mem (by assumption) (_, _) (by k_mem))
  | assumption
  | exact Ne.symm (by assumption)
  | exact Nat.ne_of_lt (lt_at (by assumption) (by k_mem))
  | exact Nat.ne_of_gt (lt_at (by assumption) (by k_mem))
  | (refine neN ?_; omega)))
  k_with "my_enter" => ((
  (case ho => k_is)
  (case hcd => k_is)
  (case hbind => exact BindsTo.of_eq rfl)
  (case hloc => exact locs rfl)
  (case hco => exact rfl)
  (case hgen => exact rfl)
  (case hk => exact rfl)
  (case hcell => decide)))
  k_with "my_dist" => (((simp only [Dist, AllNe, and_true]); (repeat' (refine And.intro ?_ ?_)); all_goals k_ne))
  k_with "my_bs" => (first | exact List.forall_mem_nil _ | (refine List.forall_mem_cons.mpr ⟨⟨⟨_, by k_mem⟩, ⟨by k_ne, by k_ne⟩⟩, ?_⟩; walk_at "my_bs"))
  k_with "my_bs0" => (first | exact List.forall_mem_nil _ | (refine List.forall_mem_cons.mpr ⟨⟨_, by k_mem⟩, ?_⟩; walk_at "my_bs0"))
  k_with "my_ro" => (first | exact List.forall_mem_nil _ | (refine List.forall_mem_cons.mpr ⟨?aZ, ?bZ⟩; (case aZ => first | exact fun _ => News.get (by k_asm) (by k_mem) | exact fun hn => absurd (by simp) hn); (case bZ => walk_at "my_ro")))
  k_with "exec Raise some none" => ((k_here; (with_reducible show wpAny _ _ (exec (Stmt.Raise (some (Expr.Call (Expr.Name (PySem.Str.ofString "IoFault") _) _ _ _)) none _) _) _ _ _); k_dflt (refine' raise_K (C := 51) ?XZ ?KZ ?bZ ?tZ ?hZ ?_; (case XZ => k_asm); (case KZ => k_is); (case bZ => rfl); (case tZ => rfl); (case hZ => first | exact rfl | exact Room.hand (by assumption)); k_whole)))
  k_with "exec Raise some none" => ((k_here; (with_reducible show wpAny _ _ (exec (Stmt.Raise (some (Expr.Call (Expr.Name (PySem.Str.ofString "EndFault") _) _ _ _)) none _) _) _ _ _); k_dflt (refine' raise_K (C := 70) ?XZ ?KZ ?bZ ?tZ ?hZ ?_; (case XZ => k_asm); (case KZ => k_is); (case bZ => rfl); (case tZ => rfl); (case hZ => first | exact rfl | exact Room.hand (by assumption)); k_whole)))
  k_with "call ref" => ((k_here; (with_reducible show wpAny _ _ (PySem.call (Value.ref 51) [_, _]) _ _ _); k_dflt (refine' mk51_K ?SZ ?BZ ?FZ ?NZ ?RZ ?_; (case SZ => assumption); (case BZ => assumption); (case FZ => k_asm); (case NZ => k_asm); (case RZ => exact Room.less (by assumption) (by decide)); k_whole); intro h' tk' e' t' d' tx' ty' F' N' l1 l2 l3; (try k_sweep)))
  k_with "call ref" => ((k_here; (with_reducible show wpAny _ _ (PySem.call (Value.ref 70) [_]) _ _ _); k_dflt (refine' mk70_K ?SZ ?BZ ?FZ ?NZ ?RZ ?_; (case SZ => assumption); (case BZ => assumption); (case FZ => k_asm); (case NZ => k_asm); (case RZ => exact Room.less (by assumption) (by decide)); k_whole); intro h' tk' e' t' d' tx' ty' tz' F' N' l1 l2 l3; (try k_sweep)))
  k_with "RaiseMade" => ((k_dflt (refine' raiseMade_ ?XZ ?hZ ?_; (case XZ => k_in); (case hZ => exact News.get (by k_asm) (by k_mem)))))
  k_with "my_enterC" => ((
  (case ho => k_is)
  (case hcd => k_is)
  (case hbind => exact BindsTo.of_eq rfl)
  (case hkind => exact rfl)
  (case hnd => decide +kernel)
  (case hco => exact rfl)
  (case hgen => exact rfl)
  (case hk => exact rfl)))
  k_with "my:k_all" => (exact OffR.all (by assumption))
  k_with "my_sub" => (first | exact List.forall_mem_nil _ | (refine List.forall_mem_cons.mpr ⟨?aZ, ?bZ⟩; (case aZ => k_mem); (case bZ => walk_at "my_sub")) | exact fun _ hq => by ((repeat refine List.Mem.tail _ ?_); exact hq))
  k_with "my_mems" => (first | exact List.forall_mem_nil _ | (refine List.forall_mem_cons.mpr ⟨?aZ, ?bZ⟩; (case aZ => k_mem); (case bZ => walk_at "my_mems")))
  k_with "my_allne" => (((simp only [AllNe, and_true]); (repeat' (refine And.intro ?_ ?_)); all_goals k_ne))
  k_with "my_ro" => (first | exact List.forall_mem_nil _ | (refine List.forall_mem_cons.mpr ⟨?aZ, ?bZ⟩; (case aZ => first | exact fun _ => News.get (by k_asm) (by k_mem) | exact fun hn => absurd (by simp) hn); (case bZ => walk_at "my_ro")) | exact fun _ hq _ => News.get (by k_asm) (by ((repeat refine List.Mem.tail _ ?_); exact hq)))
  k_with "my_bsne" => (first | exact List.forall_mem_nil _ | (refine List.forall_mem_cons.mpr ⟨?aZ, ?bZ⟩; (case aZ => k_ne); (case bZ => walk_at "my_bsne")) | exact OffR.all (by assumption))
  k_with "call ref" => ((k_here; (with_reducible show wpAny _ _ (PySem.call (Value.ref 121) []) _ _ _); k_dflt (refine' store_K ?SZ ?BZ ?FZ ?NZ ?RZ ?_; (case SZ => assumption); (case BZ => assumption); (case FZ => k_asm); (case NZ => k_asm); (case RZ => first | exact Room.less (by assumption) (by decide) | exact Room.less (Room.deeper (n := 7) (Room.less (by assumption) (by decide)) (by decide)) (by decide) | exact Room.less (Room.deeper (n := 6) (Room.deeper (n := 7) (Room.less (by assumption) (by decide)) (by decide)) (by decide)) (by decide)); k_whole); intro h' tk' x' d' sf' so' k' F' N' hd' lo' a1' a2' a3' b1' b2' b3'; (try dsimp only at N'); (try k_sweep)))
  k_with "call ref" => ((k_here; (with_reducible show wpAny _ _ (PySem.call (Value.ref 142) [_, Value.ref _, _]) _ _ _); k_dflt (refine' unit_K ?SZ ?BZ ?FZ ?NZ ?RZ ?_; (case SZ => assumption); (case BZ => assumption); (case FZ => k_asm); (case NZ => k_asm); (case RZ => first | exact Room.less (by assumption) (by decide) | exact Room.less (Room.deeper (n := 7) (Room.less (by assumption) (by decide)) (by decide)) (by decide) | exact Room.less (Room.deeper (n := 6) (Room.deeper (n := 7) (Room.less (by assumption) (by decide)) (by decide)) (by decide)) (by decide)); k_whole); intro h' tk' x' d' ui' tp' F' N' a1' a2' b1'; (try dsimp only at N'); (try k_sweep)))
  k_with "call ref" => ((k_here; (with_reducible show wpAny _ _ (PySem.call (Value.ref 100) [Value.str _ _, Value.str _ _, Value.str _ _, Value.int _ _]) _ _ _); k_dflt (refine' file_K ?SZ ?BZ ?FZ ?NZ ?RZ ?_; (case SZ => assumption); (case BZ => assumption); (case FZ => k_asm); (case NZ => k_asm); (case RZ => first | exact Room.less (by assumption) (by decide) | exact Room.less (Room.deeper (n := 7) (Room.less (by assumption) (by decide)) (by decide)) (by decide) | exact Room.less (Room.deeper (n := 6) (Room.deeper (n := 7) (Room.less (by assumption) (by decide)) (by decide)) (by decide)) (by decide)); k_whole); intro h' tk' x' d' fi' rc' rn' nb' no' F' N' hd' lo' e1' e2' e3' a1' a2' a3' a4' b1' b2' b3' b4' b5' b6'; (try dsimp only at N'); (try k_sweep)))
  trivial
section
variable {prog : Program} {w : World} {A : Around} {E : Value → Shared → Prop} {s : Shared} {h₀ : Heap} {L a : Addr} {m : Str → Option Value} {K : Frag} {Q : Value → Shared → Prop}
theorem fmStrip {fm : PySem.Str} (h : fm = PySem.Str.ofString "FORMATTED" ∨ fm = PySem.Str.ofString "UNFORMATTED") : Txt.rstripChars fm (PySem.Str.ofString " ") = fm := by
  rcases h with rfl | rfl <;> decide +kernel
theorem fmLen {fm : PySem.Str} (h : fm = PySem.Str.ofString "FORMATTED" ∨ fm = PySem.Str.ofString "UNFORMATTED") : fm.length ≤ 20 := by
  rcases h with rfl | rfl <;> decide +kernel
theorem rstrip_as {x y z : PySem.Str} {t u : Tok} (hz : x.length ≤ 20) (e : Txt.rstripChars x y = z) (h : ∀ t' k, Q (.str z t') { s with toks := k }) : wpAny (model prog w) A (call (.builtin "str.rstrip") [.str x t, .str y u]) Q E s :=
  SCL.rstripChars (fun t' k _ => by rw [e]; exact h t' k) (by rw [sizeLine_eq]; omega)
theorem notinTop {l : List Value} {dd : Option Addr} {sl : Array (Option Value)} {n : Nat} {ys : List PySem.Str} {x : PySem.Str} {u : Tok} (F : Fr h₀ L s.heap m) (X₀ : K.In h₀) (hl : K.lookup a = some ⟨.type "tuple", dd, .seq l.toArray n, sl⟩)
    (hi : StrsAre l ys) (hb : ys.any (· == x) = true) (h : Q (.bool false) s) : wpAny (model prog w) A (compareOp .NotIn (.str x u) (.ref a)) Q E s :=
  notin_tuple_strs (tupK (X₀.keeps F.keep) hl) hi (by rw [hb]; exact h)
theorem fmIn {fm : PySem.Str} (h : fm = PySem.Str.ofString "FORMATTED" ∨ fm = PySem.Str.ofString "UNFORMATTED") : [PySem.Str.ofString "FORMATTED", PySem.Str.ofString "UNFORMATTED"].any (· == fm) = true := by
  rcases h with rfl | rfl <;> decide +kernel
end
section
variable {prog : Program} {w : World} {A : Around} {E : Value → Shared → Prop} {s : Shared} {h₀ : Heap} {L d : Addr} {m : Str → Option Value} {news : List (Addr × Obj)} {o : Obj} {Q : Value → Shared → Prop}
theorem sortedInts {kvs : List (Int × Value)} (hh : A.handled = none) (F : Fr h₀ L s.heap m) (N : News h₀ L s.heap news) (hm : (d, o) ∈ news) (lo : (d == sysModules) = false) (hd : o.IsDictOf (PySem.intKind prog w) kvs) (hn : kvs.length ≤ 20)
    (h : ∀ (B : Addr) h' tk (vs : List Value), Fr h₀ L h' m → News h₀ L h' ((B, listOf vs.toArray 0) :: news) → (∀ q ∈ news, q.1 < B) → vs.length = kvs.length → (∀ (j : Nat) (u : Value), vs[j]? = some u → ∃ (k : Int) (x : Value) (t : Tok), kvs[j]? = some (k, x) ∧ u = Value.int k t) →
      wpAny (model prog w) A.in1 (call (.builtin "list.sort") [.ref B]) (fun _ s' => Q (.ref B) s') E { s with heap := h', toks := tk }) :
    wpAny (model prog w) A (call (.builtin "sorted") [.ref d]) Q E s := by
  obtain ⟨ep, hat⟩ := Heap.DictOf.dictAt (Heap.dictOf_iff.mpr ⟨o, (N _ hm).1, hd⟩)
  refine kdu_sorted (kdl_dict (knd := PySem.intKind prog w) (kvs := kvs) (ep := ep) lo) hh F N hat (by rw [sizeLine_eq]; omega) fun B h' tk vs F' N' l1 hl hv => ?_
  refine h B h' tk vs F' N' l1 hl fun j u hu => ?_
  obtain ⟨k, x, hx, hk⟩ := hv j u hu
  obtain ⟨t, rfl⟩ := Value.isInt_shape hk
  exact ⟨k, x, t, hx, rfl⟩
theorem sorted0 (hh : A.handled = none) (F : Fr h₀ L s.heap m) (N : News h₀ L s.heap news) (hm : (d, o) ∈ news) (lo : (d == sysModules) = false) (hd : o.IsDictOf (PySem.intKind prog w) [])
    (h : ∀ (B : Addr) h' tk, Fr h₀ L h' m → News h₀ L h' ((B, listOf #[] 0) :: news) → (∀ q ∈ news, q.1 < B) →
      wpAny (model prog w) A.in1 (call (.builtin "list.sort") [.ref B]) (fun _ s' => Q (.ref B) s') E { s with heap := h', toks := tk }) :
    wpAny (model prog w) A (call (.builtin "sorted") [.ref d]) Q E s :=
  sortedInts hh F N hm lo hd (by simp) fun B h' tk vs F' N' l1 hl _ => by
    obtain rfl := List.length_eq_zero_iff.mp hl
    exact h B h' tk F' N' l1
theorem sorted1 {k : Int} {v : Value} (hh : A.handled = none) (F : Fr h₀ L s.heap m) (N : News h₀ L s.heap news) (hm : (d, o) ∈ news) (lo : (d == sysModules) = false) (hd : o.IsDictOf (PySem.intKind prog w) [(k, v)])
    (h : ∀ (B : Addr) h' tk t, Fr h₀ L h' m → News h₀ L h' ((B, listOf #[.int k t] 0) :: news) → (∀ q ∈ news, q.1 < B) →
      wpAny (model prog w) A.in1 (call (.builtin "list.sort") [.ref B]) (fun _ s' => Q (.ref B) s') E { s with heap := h', toks := tk }) :
    wpAny (model prog w) A (call (.builtin "sorted") [.ref d]) Q E s :=
  sortedInts hh F N hm lo hd (by simp) fun B h' tk vs F' N' l1 hl hv => by
    match vs, hl with
    | [u], _ =>
      obtain ⟨k', x, t, e, rfl⟩ := hv 0 u rfl
      simp at e
      obtain ⟨rfl, rfl⟩ := e
      exact h B h' tk t F' N' l1
end
theorem line_M31_2 : True := by
  k_with "call builtin:sorted" => ((k_here; k_dflt (first
  | (refine' sorted0 ?HZ ?FZ ?NZ ?MZ ?loZ ?DZ ?_; (case HZ => exact rfl); (case FZ => k_asm); (case NZ => k_asm); (case MZ => k_mem); (case DZ => assumption); (case loZ => assumption); intro B' h' tk' F' N' l1; (try k_lt l1); (try k_sweep))
  | (refine' sorted1 ?HZ ?FZ ?NZ ?MZ ?loZ ?DZ ?_; (case HZ => exact rfl); (case FZ => k_asm); (case NZ => k_asm); (case MZ => k_mem); (case DZ => assumption); (case loZ => assumption); intro B' h' tk' t' F' N' l1; (try k_lt l1); (try k_sweep)))))
  trivial
theorem perm0 {v : List Value} {n : List Int} (i : IntsAre v n) (p : n.Perm []) : v = [] := by
  have e := p.eq_nil
  subst e
  cases i; rfl
theorem perm1 {v : List Value} {n : List Int} {k : Int} (i : IntsAre v n) (p : n.Perm [k]) : ∃ t, v = [Value.int k t] := by
  have e := List.perm_singleton.mp p
  subst e
  match v, i with
  | _, .cons _ t .nil => exact ⟨t, rfl⟩
theorem line_M31_3 : True := by
  k_with "pyIter ref" => ((k_here; (rename List.Perm _ _ => p9); (rename IntsAre _ _ => i9); k_dflt (first | (have e9 := perm0 i9 p9; subst e9; clear p9) | (obtain ⟨t9, e9⟩ := perm1 i9 p9; subst e9; clear p9))))
  k_with "call builtin:str.rstrip" => ((k_here; k_dflt (refine' rstrip_as ?zZ ?eZ ?_; (case zZ => exact fmLen (by assumption)); (case eZ => exact fmStrip (by assumption))); intro _ _))
  k_with "compareOp NotIn str ref" => ((k_here; k_dflt (refine' notinTop ?FZ ?XZ ?lZ ?iZ ?bZ ?_; (case FZ => k_asm); (case XZ => k_asm); (case lZ => k_is); (case iZ => repeat constructor); (case bZ => first | exact fmIn (by assumption) | decide +kernel))))
  k_with "my:k_room" => (((try simp only [depth_mark, depth_under_make, depth_under_kw, depth_in1, depth_deeper, depth_caller]); (try dsimp only); omega))
  trivial
section
variable {prog : Program} {w : World} {A : Around} {s : Shared} {base : Heap} {outer : List Env} {mean : ExcName → Option Value} {mg mb : Str → Option Value}
  {R : Result → Shared → Prop} {wd al : Addr} {wo : Obj} {kvs : List (PySem.Str × Value)} {key dflt x : PySem.Str} {t1 td tx : Tok} {dd : Option Addr} {l : List Value} {n : Nat} {sl : Array (Option Value)} {ys : List PySem.Str}
theorem get2_as {E : Value → Shared → Prop} {h₀ : Heap} {L d : Addr} {news : List (Addr × Obj)} {o : Obj} {Q : Value → Shared → Prop} {v df : Value} (N : News h₀ L s.heap news) (hp : (d, o) ∈ news) (hd : o.IsDictOf (PySem.strKind prog w) kvs) (lo : (d == sysModules) = false) (hv : (valueAt kvs key).getD df = v) (h : Q v { s with toks := s.toks + 1 }) :
    wpAny (model prog w) A (call (.builtin "dict.get") [.ref d, .str key t1, df]) Q E s := kdg_get2 N hp hd lo (strKind_is _ _ _ _) _ rfl (by rw [hv]; exact h)
theorem line_M31_4 : True := by
  k_with "call builtin:dict.get" => ((k_here; k_dflt (refine' get2_as ?NZ ?MZ ?DZ ?loZ ?vZ ?_; (case NZ => k_asm); (case MZ => k_mem); (case DZ => assumption); (case loZ => assumption); (case vZ => assumption))))
  k_with "call builtin:str.rstrip" => ((k_here; k_dflt (refine' rstrip_as ?zZ ?eZ ?_; (case zZ => assumption); (case eZ => assumption)); intro _ _))
  k_with "compareOp NotIn str ref" => ((k_here; k_dflt (refine' notinTop ?FZ ?XZ ?lZ ?iZ ?bZ ?_; (case FZ => k_asm); (case XZ => k_asm); (case lZ => assumption); (case iZ => assumption); (case bZ => assumption))))
  trivial
theorem word (S : St w mean mg mb base) (B : Below A base outer s.heap) (Rm : Room A 2) (H : Has base outer s.heap [(wd, wo)]) (hwo : wo.IsDictOf (PySem.strKind prog w) kvs) (lo : (wd == sysModules) = false)
    (hv : (valueAt kvs key).getD (.str dflt td) = .str x tx) (hz : x.length ≤ 20) (hs : Txt.rstripChars x (PySem.Str.ofString " ") = x) (hl : (Mine.hd.heap_1 w.params).lookup al = some ⟨.type "tuple", dd, .seq l.toArray n, sl⟩) (hi : StrsAre l ys) (hb : ys.any (· == x) = true)
    (k : ∀ h' tk t', Step [] [] s.heap h' → R (.ok (.ret (.str x t'))) { s with heap := h', toks := tk }) :
    codeAny (model prog w) A (.call (.ref 153) ⟨[.ref wd, .str key t1, .str dflt td, .ref al], []⟩) R s := by
  obtain ⟨ha, dp, fr, gd, un⟩ := A
  obtain rfl : ha = none := Rm.han
  obtain rfl : fr = some outer := B.stack
  refine' enter [(wd, wo)] S B Rm.d H ?ho ?hcd ?hbind ?hloc ?h ?hco ?hgen ?hk ?hcell
  walk_at "my_enter"
  intro g L' h₁ F N B' X T hold hg hL
  have T0 : KtsTurn (fs outer) g g := KtsTurn.refl
  skip
  dsimp only
  try k_fold
  k_steps
  (try show R (.ok (.ret _)) _)
  (rename Fr _ _ _ _ => F9)
  (rename News _ _ _ _ => N9)
  exact k _ _ _ (step_cut (end0 hold F9) H (by walk_at "my_ro"))
end
section
variable {prog : Program} {w : World} {A : Around} {s : Shared} {base g : Heap} {outer : List Env} {mean : ExcName → Option Value} {mg mb : Str → Option Value}
  {L a : Addr} {m : Str → Option Value} {news : List (Addr × Obj)} {env : Env} {Q E : Value → Shared → Prop} {wd al : Addr} {wo : Obj} {kvs : List (PySem.Str × Value)} {key dflt x : PySem.Str} {t1 td tx : Tok} {dd : Option Addr} {l : List Value} {n : Nat} {sl : Array (Option Value)} {ys : List PySem.Str} 
theorem word_K {hpS : Heap} {gnS : Array GenState} {drS : Drawn} {tkS : Nat} {osS : OsState} (S : St w mean mg mb base) (B : Below A base outer g) (F : Fr g L hpS m) (N : News g L hpS news) (Rm : Room A 4) (hm : (wd, wo) ∈ news) (hwo : wo.IsDictOf (PySem.strKind prog w) kvs) (lo : (wd == sysModules) = false)
    (hv : (valueAt kvs key).getD (.str dflt td) = .str x tx) (hz : x.length ≤ 20) (hs : Txt.rstripChars x (PySem.Str.ofString " ") = x) (hl : (Mine.hd.heap_1 w.params).lookup al = some ⟨.type "tuple", dd, .seq l.toArray n, sl⟩) (hi : StrsAre l ys) (hb : ys.any (· == x) = true)
    (kk : ∀ h' tk t', Fr g L h' m → News g L h' news → Q (.str x t') ⟨h', gnS, drS, tk, osS⟩) (hf : env.frame = some L := by rfl) (hk : env.scope.kind = .function := by rfl) :
    wpAny (model prog w) (A.deeper env) (call (.ref 153) [.ref wd, .str key t1, .str dflt td, .ref al]) Q E ⟨hpS, gnS, drS, tkS, osS⟩ := by
  refine wpAny_call (word S (pushX B F hf hk) (Rm.deeper (by decide)) (has_ofX hf B N (List.forall_mem_cons.mpr ⟨hm, fun _ h => nomatch h⟩)) hwo lo hv hz hs hl hi hb fun h' tk t' x1 => ?_)
  obtain ⟨F', N'⟩ := use00 F N x1
  exact kk h' tk t' F' N'
end
end
section
open PySem PySem.W PyProof.Rows PySem.Spec PySem.Calls PyProof.Rows.LCg PySem.SeqAt
theorem inK {prog : Program} {w : World} {A : Around} {E : Value → Shared → Prop} {s : Shared} {h₀ : Heap} {L d : Addr} {news : List (Addr × Obj)} {o : Obj} {Q : Value → Shared → Prop} {kvs : List (PySem.Str × Value)} {key : PySem.Str} {t : Tok} {b : Bool} (N : News h₀ L s.heap news) (hp : (d, o) ∈ news) (hd : o.IsDictOf (PySem.strKind prog w) kvs) (lo : (d == sysModules) = false) (hb : (valueAt kvs key).isSome = b) (h : Q (.bool b) { s with toks := s.toks + 1 }) :
    wpAny (model prog w) A (compareOp .In (.str key t) (.ref d)) Q E s := wpAny_in_of (knd := PySem.strKind prog w) (strKind_is _ _ _ _) lo (kda_dict N hp hd).mapOf (by rw [hb]; exact h)
theorem line_M40_1 : True := by
  k_with_none
  w_top off
  k_with "my:k_mem" => (first | exact m0_ | exact m1_ | exact m2_ | exact m3_ | exact m4_ | exact m5_ | exact m6_ | exact m7_ | (refine m8s_ ?_; k_mem))
  k_with "my:k_ne" => (((try dsimp only); first
  | exact AllNe.mem (by assumption) (_, _) (by k_mem)
  | exact Ne.symm (AllNe.mem (by assumption) (_, _) (by k_mem))
  | assumption
  | exact Ne.symm (by assumption)
  | exact Nat.ne_of_lt (lt_at (by assumption) (by k_mem))
  | exact Nat.ne_of_gt (lt_at (by assumption) (by k_mem))
  | (refine neN ?_; omega)))
  k_with "my_enter" => ((
  (case ho => k_is)
  (case hcd => k_is)
  (case hbind => exact BindsTo.of_eq rfl)
  (case hloc => exact locs rfl)
  (case hco => exact rfl)
  (case hgen => exact rfl)
  (case hk => exact rfl)
  (case hcell => decide)))
  k_with "my_dist" => (((simp only [Dist, AllNe, and_true]); (repeat' (refine And.intro ?_ ?_)); all_goals k_ne))
  k_with "my_sub" => (first | exact List.forall_mem_nil _ | (refine List.forall_mem_cons.mpr ⟨?aZ, ?bZ⟩; (case aZ => k_mem); (case bZ => walk_at "my_sub")) | exact fun _ hq => by ((repeat refine List.Mem.tail _ ?_); exact hq))
  k_with "my_mems" => (first | exact List.forall_mem_nil _ | (refine List.forall_mem_cons.mpr ⟨?aZ, ?bZ⟩; (case aZ => k_mem); (case bZ => walk_at "my_mems")))
  k_with "my_ro" => (first | exact List.forall_mem_nil _ | (refine List.forall_mem_cons.mpr ⟨?aZ, ?bZ⟩; (case aZ => first | exact fun _ => News.get (by k_asm) (by k_mem) | exact fun hn => absurd (by simp) hn); (case bZ => walk_at "my_ro")) | exact fun _ hq _ => News.get (by k_asm) (by ((repeat refine List.Mem.tail _ ?_); exact hq)))
  k_with "my_bsne" => (first | exact List.forall_mem_nil _ | (refine List.forall_mem_cons.mpr ⟨?aZ, ?bZ⟩; (case aZ => k_ne); (case bZ => walk_at "my_bsne")) | exact OffR.all (by assumption))
  k_with "call ref" => ((k_here; (with_reducible show wpAny _ _ (PySem.call (Value.ref _) _) _ _ _); refine halt ?_))
  k_with "my:k_room" => (((try simp only [depth_mark, depth_under_make, depth_under_kw, depth_in1, depth_deeper, depth_caller]); (try dsimp only); omega))
  k_with "call builtin:dict.get" => ((k_here; k_dflt (refine' kdg_get2 (knd := PySem.strKind _ _) ?NZ ?MZ ?DZ ?loZ (strKind_is _ _ _ _) _ ?hlZ ?_; (case NZ => k_asm); (case MZ => k_mem); (case DZ => assumption); (case loZ => assumption); (case hlZ => assumption)); (try dsimp only [Option.getD])))
  k_with "compareOp NotIn str ref" => ((k_here; k_dflt (refine' kdg_notin (knd := PySem.strKind _ _) ?NZ ?MZ ?DZ ?loZ (strKind_is _ _ _ _) _ ?hbZ ?_; (case NZ => k_asm); (case MZ => k_mem); (case DZ => assumption); (case loZ => assumption); (case hbZ => assumption)); (try dsimp only [Bool.not_true, Bool.not_false])))
  k_with "subscriptTail" => ((k_here; (with_reducible show wpAny _ _ (subscriptTail _ _ (Value.ref _) (Value.str _ _)) _ _ _); k_dflt (refine' kda_item (knd := PySem.strKind _ _) ?NZ ?MZ ?DZ (strKind_is _ _ _ _) ?hlZ ?_; (case NZ => k_asm); (case MZ => k_mem); (case DZ => assumption); (case hlZ => assumption))))
  k_with "compareOp In str ref" => ((k_here; k_dflt (refine' inK ?NZ ?MZ ?DZ ?loZ ?hbZ ?_; (case NZ => k_asm); (case MZ => k_mem); (case DZ => assumption); (case loZ => assumption); (case hbZ => assumption))))
  trivial
section
variable {prog : Program} {w : World} {A : Around} {s : Shared} {base : Heap} {outer : List Env} {mean : ExcName → Option Value} {mg mb : Str → Option Value}
  {R : Result → Shared → Prop} {wd : Addr} {wo : Obj} {t2 t3 t4 : Tok} {fm : PySem.Str} {len : Int} {kvs : List (PySem.Str × Value)}
noncomputable def sortD_s : (Rq : Program → World → Shared → Heap → List Env → (ExcName → Option Value) → (Str → Option Value) → (Str → Option Value) → (Result → Shared → Prop) → Addr → Obj → Tok → Tok → Tok → PySem.Str → Int → List (PySem.Str × Value) → Nat → Option (List Code) → Nat → Heap → Addr → Heap → Prop) ×' ((∀ (prog : Program) (w : World) (s : Shared) (base : Heap) (outer : List Env) (mean : ExcName → Option Value) (mg : Str → Option Value) (mb : Str → Option Value) (R : Result → Shared → Prop) (wd : Addr) (wo : Obj) (t2 : Tok) (t3 : Tok) (t4 : Tok) (fm : PySem.Str) (len : Int) (kvs : List (PySem.Str × Value)) (dp : Nat) (gd : Option (List Code)) (un : Nat) (g : Heap) (L' : Addr) (h₁ : Heap), Rq prog w s base outer mean mg mb R wd wo t2 t3 t4 fm len kvs dp gd un g L' h₁) → ∀ (A : Around) (prog : Program) (w : World) (s : Shared) (base : Heap) (outer : List Env) (mean : ExcName → Option Value) (mg : Str → Option Value) (mb : Str → Option Value) (R : Result → Shared → Prop) (wd : Addr) (wo : Obj) (t2 : Tok) (t3 : Tok) (t4 : Tok) (fm : PySem.Str) (len : Int) (kvs : List (PySem.Str × Value)) (S : St w mean mg mb base) (B : Below A base outer s.heap) (Rm : Room A 6) (H : Has base outer s.heap [(wd, wo)]) (hwo : wo.IsDictOf (PySem.strKind prog w) kvs) (lo : (wd == sysModules) = false) (vA : valueAt kvs (PySem.Str.ofString "ACCESS") = some (.str (PySem.Str.ofString "DIRECT") t2)) (vF : valueAt kvs (PySem.Str.ofString "FORM") = some (.str fm t3)) (vR : valueAt kvs (PySem.Str.ofString "RECL") = some (.int len t4)) (iR : (valueAt kvs (PySem.Str.ofString "RECL")).isSome = true) (iB : (valueAt kvs (PySem.Str.ofString "BLANK")).isSome = false) (hfm : fm = PySem.Str.ofString "FORMATTED" ∨ fm = PySem.Str.ofString "UNFORMATTED") (hl1 : 2 ≤ len) (hl2 : len ≤ 4) (k : ∀ h' tk T' ta tf tl, Step [] [] s.heap h' → h'.get? T' = some (tupO [.str (PySem.Str.ofString "DIRECT") ta, .str fm tf, .int len tl]) → s.heap.get? T' = none → R (.ok (.ret (.ref T'))) { s with heap := h', toks := tk }), codeAny (model prog w) A (.call (.ref 167) ⟨[.ref wd], []⟩) R s) := by
  refine ⟨?Rq, fun kHq A prog w s base outer mean mg mb R wd wo t2 t3 t4 fm len kvs S B Rm H hwo lo vA vF vR iR iB hfm hl1 hl2 k => ?pfq⟩
  case pfq =>
    have hdp := Rm.dep
    obtain ⟨ha, dp, fr, gd, un⟩ := A
    obtain rfl : ha = none := Rm.han
    obtain rfl : fr = some outer := B.stack
    refine' enter [(wd, wo)] S B Rm.d H ?ho ?hcd ?hbind ?hloc ?h ?hco ?hgen ?hk ?hcell
    walk_at "my_enter"
    intro g L' h₁ F N B' X T hold hg hL
    have T0 : KtsTurn (fs outer) g g := KtsTurn.refl
    skip
    revert T0; revert hL; revert hg; revert hold; revert T; revert X; revert B'; revert N; revert F; revert hdp; revert k; revert hl2; revert hl1; revert hfm; revert iB; revert iR; revert vR; revert vF; revert vA; revert lo; revert hwo; revert H; revert Rm; revert B; revert S
    exact kHq prog w s base outer mean mg mb R wd wo t2 t3 t4 fm len kvs dp gd un g L' h₁
noncomputable def sortD_q (x : (((((Program × World) × Shared) × ((Heap × List Env) × (ExcName → Option Value))) × ((((Str → Option Value) × (Str → Option Value)) × (Result → Shared → Prop)) × ((Addr × Obj) × Tok))) × ((((Tok × Tok) × PySem.Str) × ((Int × List (PySem.Str × Value)) × Nat)) × (((Option (List Code) × Nat) × Heap) × (Addr × Heap))))) : Prop := sortD_s.1 x.1.1.1.1.1 x.1.1.1.1.2 x.1.1.1.2 x.1.1.2.1.1 x.1.1.2.1.2 x.1.1.2.2 x.1.2.1.1.1 x.1.2.1.1.2 x.1.2.1.2 x.1.2.2.1.1 x.1.2.2.1.2 x.1.2.2.2 x.2.1.1.1.1 x.2.1.1.1.2 x.2.1.1.2 x.2.1.2.1.1 x.2.1.2.1.2 x.2.1.2.2 x.2.2.1.1.1 x.2.2.1.1.2 x.2.2.1.2 x.2.2.2.1 x.2.2.2.2
noncomputable def sortD_c := @Classical.epsilon _ ⟨(((((PySem.Challenge.pw_sa0211_01, aWorld 1), {}), (({}, []), fun _ => none)), (((fun _ => none, fun _ => none), fun _ _ => True), ((0, instObj 0 0), 0))), ((((0, 0), Str.ofString ""), ((0, []), 0)), (((none, 0), {}), (0, {}))))⟩ fun x => ¬ sortD_q x
theorem sortD_k : sortD_q sortD_c := by
  refine (?fq : ∀ (prog : Program) (w : World) (s : Shared) (base : Heap) (outer : List Env) (mean : ExcName → Option Value) (mg : Str → Option Value) (mb : Str → Option Value) (R : Result → Shared → Prop) (wd : Addr) (wo : Obj) (t2 : Tok) (t3 : Tok) (t4 : Tok) (fm : PySem.Str) (len : Int) (kvs : List (PySem.Str × Value)) (dp : Nat) (gd : Option (List Code)) (un : Nat) (g : Heap) (L' : Addr) (h₁ : Heap), sortD_s.1 prog w s base outer mean mg mb R wd wo t2 t3 t4 fm len kvs dp gd un g L' h₁) _ _ _ _ _ _ _ _ _ _ _ _ _ _ _ _ _ _ _ _ _ _ _ 
  intro prog w s base outer mean mg mb R wd wo t2 t3 t4 fm len kvs dp gd un g L' h₁ S B Rm H hwo lo vA vF vR iR iB hfm hl1 hl2 k hdp F N B' X T hold hg hL T0
  dsimp only
  try k_fold
  (try dsimp only at hdp)
  k_steps
  unfold Halt
  refine' word_K ?y1S ?y1B ?y1F ?y1N ?y1R ?y1M ?y1D ?y1lo ?y1v ?y1z ?y1s ?y1l ?y1i ?y1b ?y1_
  case y1S => assumption
  case y1B => assumption
  case y1F => k_asm
  case y1N => k_asm
  case y1R => exact Room.less (by assumption) (by decide)
  case y1M => k_mem
  case y1D => assumption
  case y1lo => assumption
  case y1v => (rw [vA]; exact rfl)
  case y1z => decide +kernel
  case y1s => decide +kernel
  case y1l => k_is
  case y1i => repeat constructor
  case y1b => decide +kernel
  intro h1 tk1 t1 F1 N1
  (try dsimp only at N1)
  k_steps
  unfold Halt
  refine' word_K ?y2S ?y2B ?y2F ?y2N ?y2R ?y2M ?y2D ?y2lo ?y2v ?y2z ?y2s ?y2l ?y2i ?y2b ?y2_
  case y2S => assumption
  case y2B => assumption
  case y2F => k_asm
  case y2N => k_asm
  case y2R => exact Room.less (by assumption) (by decide)
  case y2M => k_mem
  case y2D => assumption
  case y2lo => assumption
  case y2v => (rw [vF]; exact rfl)
  case y2z => exact fmLen hfm
  case y2s => exact fmStrip hfm
  case y2l => k_is
  case y2i => repeat constructor
  case y2b => exact fmIn hfm
  intro h2 tk2 t2 F2 N2
  (try dsimp only at N2)
  k_steps
  all_goals try (exfalso; (rename (bne _ _ = true) => hb); revert hb; simp; omega)
  (try show R (.ok (.ret _)) _)
  (rename Fr _ _ _ _ => F9)
  (rename News _ _ _ _ => N9)
  exact k _ _ _ _ _ _ (step_cut (end0 hold F9) H (by walk_at "my_ro")) (N9.get (by k_mem)) (fresh_in hold N9 (by k_mem) (by walk_at "my_bsne"))
theorem sortD  (S : St w mean mg mb base) (B : Below A base outer s.heap) (Rm : Room A 6) (H : Has base outer s.heap [(wd, wo)]) (hwo : wo.IsDictOf (PySem.strKind prog w) kvs) (lo : (wd == sysModules) = false)
    (vA : valueAt kvs (PySem.Str.ofString "ACCESS") = some (.str (PySem.Str.ofString "DIRECT") t2)) (vF : valueAt kvs (PySem.Str.ofString "FORM") = some (.str fm t3)) (vR : valueAt kvs (PySem.Str.ofString "RECL") = some (.int len t4)) (iR : (valueAt kvs (PySem.Str.ofString "RECL")).isSome = true) (iB : (valueAt kvs (PySem.Str.ofString "BLANK")).isSome = false)
    (hfm : fm = PySem.Str.ofString "FORMATTED" ∨ fm = PySem.Str.ofString "UNFORMATTED") (hl1 : 2 ≤ len) (hl2 : len ≤ 4)
    (k : ∀ h' tk T' ta tf tl, Step [] [] s.heap h' → h'.get? T' = some (tupO [.str (PySem.Str.ofString "DIRECT") ta, .str fm tf, .int len tl]) → s.heap.get? T' = none → R (.ok (.ret (.ref T'))) { s with heap := h', toks := tk }) :
    codeAny (model prog w) A (.call (.ref 167) ⟨[.ref wd], []⟩) R s :=
  sortD_s.2 (fun prog w s base outer mean mg mb R wd wo t2 t3 t4 fm len kvs dp gd un g L' h₁ => hk_ax (P := sortD_q) _ sortD_k (((((prog, w), s), ((base, outer), mean)), (((mg, mb), R), ((wd, wo), t2))), ((((t3, t4), fm), ((len, kvs), dp)), (((gd, un), g), (L', h₁))))) A prog w s base outer mean mg mb R wd wo t2 t3 t4 fm len kvs S B Rm H hwo lo vA vF vR iR iB hfm hl1 hl2 k
noncomputable def sortS_s : (Rq : Program → World → Shared → Heap → List Env → (ExcName → Option Value) → (Str → Option Value) → (Str → Option Value) → (Result → Shared → Prop) → Addr → Obj → Tok → PySem.Str → Int → List (PySem.Str × Value) → Nat → Option (List Code) → Nat → Heap → Addr → Heap → Prop) ×' ((∀ (prog : Program) (w : World) (s : Shared) (base : Heap) (outer : List Env) (mean : ExcName → Option Value) (mg : Str → Option Value) (mb : Str → Option Value) (R : Result → Shared → Prop) (wd : Addr) (wo : Obj) (t3 : Tok) (fm : PySem.Str) (len : Int) (kvs : List (PySem.Str × Value)) (dp : Nat) (gd : Option (List Code)) (un : Nat) (g : Heap) (L' : Addr) (h₁ : Heap), Rq prog w s base outer mean mg mb R wd wo t3 fm len kvs dp gd un g L' h₁) → ∀ (A : Around) (prog : Program) (w : World) (s : Shared) (base : Heap) (outer : List Env) (mean : ExcName → Option Value) (mg : Str → Option Value) (mb : Str → Option Value) (R : Result → Shared → Prop) (wd : Addr) (wo : Obj) (t3 : Tok) (fm : PySem.Str) (len : Int) (kvs : List (PySem.Str × Value)) (S : St w mean mg mb base) (B : Below A base outer s.heap) (Rm : Room A 6) (H : Has base outer s.heap [(wd, wo)]) (hwo : wo.IsDictOf (PySem.strKind prog w) kvs) (lo : (wd == sysModules) = false) (vA : valueAt kvs (PySem.Str.ofString "ACCESS") = none) (vF : valueAt kvs (PySem.Str.ofString "FORM") = some (.str fm t3)) (vR : valueAt kvs (PySem.Str.ofString "RECL") = none) (iR : (valueAt kvs (PySem.Str.ofString "RECL")).isSome = false) (iB : (valueAt kvs (PySem.Str.ofString "BLANK")).isSome = false) (hfm : fm = PySem.Str.ofString "FORMATTED" ∨ fm = PySem.Str.ofString "UNFORMATTED") (hl1 : 2 ≤ len) (hl2 : len ≤ 4) (k : ∀ h' tk T' ta tf tl, Step [] [] s.heap h' → h'.get? T' = some (tupO [.str (PySem.Str.ofString "SEQUENTIAL") ta, .str fm tf, .int 0 tl]) → s.heap.get? T' = none → R (.ok (.ret (.ref T'))) { s with heap := h', toks := tk }), codeAny (model prog w) A (.call (.ref 167) ⟨[.ref wd], []⟩) R s) := by
  refine ⟨?Rq, fun kHq A prog w s base outer mean mg mb R wd wo t3 fm len kvs S B Rm H hwo lo vA vF vR iR iB hfm hl1 hl2 k => ?pfq⟩
  case pfq =>
    have hdp := Rm.dep
    obtain ⟨ha, dp, fr, gd, un⟩ := A
    obtain rfl : ha = none := Rm.han
    obtain rfl : fr = some outer := B.stack
    refine' enter [(wd, wo)] S B Rm.d H ?ho ?hcd ?hbind ?hloc ?h ?hco ?hgen ?hk ?hcell
    walk_at "my_enter"
    intro g L' h₁ F N B' X T hold hg hL
    have T0 : KtsTurn (fs outer) g g := KtsTurn.refl
    skip
    revert T0; revert hL; revert hg; revert hold; revert T; revert X; revert B'; revert N; revert F; revert hdp; revert k; revert hl2; revert hl1; revert hfm; revert iB; revert iR; revert vR; revert vF; revert vA; revert lo; revert hwo; revert H; revert Rm; revert B; revert S
    exact kHq prog w s base outer mean mg mb R wd wo t3 fm len kvs dp gd un g L' h₁
noncomputable def sortS_q (x : (((((Program × World) × Shared) × ((Heap × List Env) × (ExcName → Option Value))) × ((((Str → Option Value) × (Str → Option Value)) × (Result → Shared → Prop)) × (Addr × Obj))) × ((((Tok × PySem.Str) × Int) × (List (PySem.Str × Value) × Nat)) × (((Option (List Code) × Nat) × Heap) × (Addr × Heap))))) : Prop := sortS_s.1 x.1.1.1.1.1 x.1.1.1.1.2 x.1.1.1.2 x.1.1.2.1.1 x.1.1.2.1.2 x.1.1.2.2 x.1.2.1.1.1 x.1.2.1.1.2 x.1.2.1.2 x.1.2.2.1 x.1.2.2.2 x.2.1.1.1.1 x.2.1.1.1.2 x.2.1.1.2 x.2.1.2.1 x.2.1.2.2 x.2.2.1.1.1 x.2.2.1.1.2 x.2.2.1.2 x.2.2.2.1 x.2.2.2.2
noncomputable def sortS_c := @Classical.epsilon _ ⟨(((((PySem.Challenge.pw_sa0211_01, aWorld 1), {}), (({}, []), fun _ => none)), (((fun _ => none, fun _ => none), fun _ _ => True), (0, instObj 0 0))), ((((0, Str.ofString ""), 0), ([], 0)), (((none, 0), {}), (0, {}))))⟩ fun x => ¬ sortS_q x
theorem sortS_k : sortS_q sortS_c := by
  refine (?fq : ∀ (prog : Program) (w : World) (s : Shared) (base : Heap) (outer : List Env) (mean : ExcName → Option Value) (mg : Str → Option Value) (mb : Str → Option Value) (R : Result → Shared → Prop) (wd : Addr) (wo : Obj) (t3 : Tok) (fm : PySem.Str) (len : Int) (kvs : List (PySem.Str × Value)) (dp : Nat) (gd : Option (List Code)) (un : Nat) (g : Heap) (L' : Addr) (h₁ : Heap), sortS_s.1 prog w s base outer mean mg mb R wd wo t3 fm len kvs dp gd un g L' h₁) _ _ _ _ _ _ _ _ _ _ _ _ _ _ _ _ _ _ _ _ _ 
  intro prog w s base outer mean mg mb R wd wo t3 fm len kvs dp gd un g L' h₁ S B Rm H hwo lo vA vF vR iR iB hfm hl1 hl2 k hdp F N B' X T hold hg hL T0
  dsimp only
  try k_fold
  (try dsimp only at hdp)
  k_steps
  unfold Halt
  refine' word_K ?y1S ?y1B ?y1F ?y1N ?y1R ?y1M ?y1D ?y1lo ?y1v ?y1z ?y1s ?y1l ?y1i ?y1b ?y1_
  case y1S => assumption
  case y1B => assumption
  case y1F => k_asm
  case y1N => k_asm
  case y1R => exact Room.less (by assumption) (by decide)
  case y1M => k_mem
  case y1D => assumption
  case y1lo => assumption
  case y1v => (rw [vA]; exact rfl)
  case y1z => decide +kernel
  case y1s => decide +kernel
  case y1l => k_is
  case y1i => repeat constructor
  case y1b => decide +kernel
  intro h1 tk1 t1 F1 N1
  (try dsimp only at N1)
  k_steps
  unfold Halt
  refine' word_K ?y2S ?y2B ?y2F ?y2N ?y2R ?y2M ?y2D ?y2lo ?y2v ?y2z ?y2s ?y2l ?y2i ?y2b ?y2_
  case y2S => assumption
  case y2B => assumption
  case y2F => k_asm
  case y2N => k_asm
  case y2R => exact Room.less (by assumption) (by decide)
  case y2M => k_mem
  case y2D => assumption
  case y2lo => assumption
  case y2v => (rw [vF]; exact rfl)
  case y2z => exact fmLen hfm
  case y2s => exact fmStrip hfm
  case y2l => k_is
  case y2i => repeat constructor
  case y2b => exact fmIn hfm
  intro h2 tk2 t2 F2 N2
  (try dsimp only at N2)
  k_steps
  all_goals try (exfalso; (rename (bne _ _ = true) => hb); revert hb; simp; omega)
  (try show R (.ok (.ret _)) _)
  (rename Fr _ _ _ _ => F9)
  (rename News _ _ _ _ => N9)
  exact k _ _ _ _ _ _ (step_cut (end0 hold F9) H (by walk_at "my_ro")) (N9.get (by k_mem)) (fresh_in hold N9 (by k_mem) (by walk_at "my_bsne"))
theorem sortS  (S : St w mean mg mb base) (B : Below A base outer s.heap) (Rm : Room A 6) (H : Has base outer s.heap [(wd, wo)]) (hwo : wo.IsDictOf (PySem.strKind prog w) kvs) (lo : (wd == sysModules) = false)
    (vA : valueAt kvs (PySem.Str.ofString "ACCESS") = none) (vF : valueAt kvs (PySem.Str.ofString "FORM") = some (.str fm t3)) (vR : valueAt kvs (PySem.Str.ofString "RECL") = none) (iR : (valueAt kvs (PySem.Str.ofString "RECL")).isSome = false) (iB : (valueAt kvs (PySem.Str.ofString "BLANK")).isSome = false)
    (hfm : fm = PySem.Str.ofString "FORMATTED" ∨ fm = PySem.Str.ofString "UNFORMATTED") (hl1 : 2 ≤ len) (hl2 : len ≤ 4)
    (k : ∀ h' tk T' ta tf tl, Step [] [] s.heap h' → h'.get? T' = some (tupO [.str (PySem.Str.ofString "SEQUENTIAL") ta, .str fm tf, .int 0 tl]) → s.heap.get? T' = none → R (.ok (.ret (.ref T'))) { s with heap := h', toks := tk }) :
    codeAny (model prog w) A (.call (.ref 167) ⟨[.ref wd], []⟩) R s :=
  sortS_s.2 (fun prog w s base outer mean mg mb R wd wo t3 fm len kvs dp gd un g L' h₁ => hk_ax (P := sortS_q) _ sortS_k (((((prog, w), s), ((base, outer), mean)), (((mg, mb), R), (wd, wo))), ((((t3, fm), len), (kvs, dp)), (((gd, un), g), (L', h₁))))) A prog w s base outer mean mg mb R wd wo t3 fm len kvs S B Rm H hwo lo vA vF vR iR iB hfm hl1 hl2 k
theorem nameD (S : St w mean mg mb base) (B : Below A base outer s.heap) (Rm : Room A 6) (H : Has base outer s.heap [(wd, wo)]) (hwo : wo.IsDictOf (PySem.strKind prog w) kvs) (lo : (wd == sysModules) = false)
    (vN : valueAt kvs (PySem.Str.ofString "FILE") = some (.str (PySem.Str.ofString "D") t2)) (iN : (valueAt kvs (PySem.Str.ofString "FILE")).isSome = true)
    (k : ∀ h' tk ta, Step [] [] s.heap h' → R (.ok (.ret (.str (PySem.Str.ofString "D") ta))) { s with heap := h', toks := tk }) :
    codeAny (model prog w) A (.call (.ref 160) ⟨[.ref wd], []⟩) R s := by
  have hdp := Rm.dep
  obtain ⟨ha, dp, fr, gd, un⟩ := A
  obtain rfl : ha = none := Rm.han
  obtain rfl : fr = some outer := B.stack
  refine' enter [(wd, wo)] S B Rm.d H ?ho ?hcd ?hbind ?hloc ?h ?hco ?hgen ?hk ?hcell
  walk_at "my_enter"
  intro g L' h₁ F N B' X T hold hg hL
  have T0 : KtsTurn (fs outer) g g := KtsTurn.refl
  skip
  dsimp only
  try k_fold
  (try dsimp only at hdp)
  k_steps
  (try show R (.ok (.ret _)) _)
  (rename Fr _ _ _ _ => F9)
  exact k _ _ _ (step_cut (end0 hold F9) H (by walk_at "my_ro"))
theorem nameS (S : St w mean mg mb base) (B : Below A base outer s.heap) (Rm : Room A 6) (H : Has base outer s.heap [(wd, wo)]) (hwo : wo.IsDictOf (PySem.strKind prog w) kvs) (lo : (wd == sysModules) = false)
    (vN : valueAt kvs (PySem.Str.ofString "FILE") = some (.str (PySem.Str.ofString "S") t2)) (iN : (valueAt kvs (PySem.Str.ofString "FILE")).isSome = true)
    (k : ∀ h' tk ta, Step [] [] s.heap h' → R (.ok (.ret (.str (PySem.Str.ofString "S") ta))) { s with heap := h', toks := tk }) :
    codeAny (model prog w) A (.call (.ref 160) ⟨[.ref wd], []⟩) R s := by
  have hdp := Rm.dep
  obtain ⟨ha, dp, fr, gd, un⟩ := A
  obtain rfl : ha = none := Rm.han
  obtain rfl : fr = some outer := B.stack
  refine' enter [(wd, wo)] S B Rm.d H ?ho ?hcd ?hbind ?hloc ?h ?hco ?hgen ?hk ?hcell
  walk_at "my_enter"
  intro g L' h₁ F N B' X T hold hg hL
  have T0 : KtsTurn (fs outer) g g := KtsTurn.refl
  skip
  dsimp only
  try k_fold
  (try dsimp only at hdp)
  k_steps
  (try show R (.ok (.ret _)) _)
  (rename Fr _ _ _ _ => F9)
  exact k _ _ _ (step_cut (end0 hold F9) H (by walk_at "my_ro"))
end
end
section
open PySem PySem.W PyProof.Rows PySem.Spec PySem.Calls PyProof.Rows.LCg PySem.SeqAt
theorem line_M41_1 : True := by
  k_with_none
  w_top off
  k_with "my:k_mem" => (first | exact m0_ | exact m1_ | exact m2_ | exact m3_ | exact m4_ | exact m5_ | exact m6_ | exact m7_ | (refine m8s_ ?_; k_mem))
  k_with "my:k_ne" => (((try dsimp only); first
  | exact AllNe.mem (by assumption) (_, _) (by k_mem)
  | exact Ne.symm (AllNe.mem (by assumption) (_, _) (by k_mem))
  | assumption
  | exact Ne.symm (by assumption)
  | exact Nat.ne_of_lt (lt_at (by assumption) (by k_mem))
  | exact Nat.ne_of_gt (lt_at (by assumption) (by k_mem))
  | (refine neN ?_; omega)))
  k_with "my_enter" => ((
  (case ho => k_is)
  (case hcd => k_is)
  (case hbind => exact BindsTo.of_eq rfl)
  (case hloc => exact locs rfl)
  (case hco => exact rfl)
  (case hgen => exact rfl)
  (case hk => exact rfl)
  (case hcell => decide)))
  k_with "my_dist" => (((simp only [Dist, AllNe, and_true]); (repeat' (refine And.intro ?_ ?_)); all_goals k_ne))
  k_with "my_sub" => (first | exact List.forall_mem_nil _ | (refine List.forall_mem_cons.mpr ⟨?aZ, ?bZ⟩; (case aZ => k_mem); (case bZ => walk_at "my_sub")) | exact fun _ hq => by ((repeat refine List.Mem.tail _ ?_); exact hq))
  k_with "my_mems" => (first | exact List.forall_mem_nil _ | (refine List.forall_mem_cons.mpr ⟨?aZ, ?bZ⟩; (case aZ => k_mem); (case bZ => walk_at "my_mems")))
  k_with "my_ro" => (first | exact List.forall_mem_nil _ | (refine List.forall_mem_cons.mpr ⟨?aZ, ?bZ⟩; (case aZ => first | exact fun _ => News.get (by k_asm) (by k_mem) | exact fun hn => absurd (by simp) hn); (case bZ => walk_at "my_ro")) | exact fun _ hq _ => News.get (by k_asm) (by ((repeat refine List.Mem.tail _ ?_); exact hq)))
  k_with "my_bsne" => (first | exact List.forall_mem_nil _ | (refine List.forall_mem_cons.mpr ⟨?aZ, ?bZ⟩; (case aZ => k_ne); (case bZ => walk_at "my_bsne")) | exact OffR.all (by assumption))
  k_with "call builtin:sorted" => ((k_here; k_dflt (first
  | (refine' sorted0 ?HZ ?FZ ?NZ ?MZ ?loZ ?DZ ?_; (case HZ => exact rfl); (case FZ => k_asm); (case NZ => k_asm); (case MZ => k_mem); (case DZ => assumption); (case loZ => assumption); intro B' h' tk' F' N' l1; (try k_lt l1); (try k_sweep))
  | (refine' sorted1 ?HZ ?FZ ?NZ ?MZ ?loZ ?DZ ?_; (case HZ => exact rfl); (case FZ => k_asm); (case NZ => k_asm); (case MZ => k_mem); (case DZ => assumption); (case loZ => assumption); intro B' h' tk' t' F' N' l1; (try k_lt l1); (try k_sweep)))))
  k_with "pyIter ref" => ((k_here; (rename List.Perm _ _ => p9); (rename IntsAre _ _ => i9); k_dflt (first | (have e9 := perm0 i9 p9; subst e9; clear p9) | (obtain ⟨t9, e9⟩ := perm1 i9 p9; subst e9; clear p9))))
  k_with "call ref" => ((k_here; (with_reducible show wpAny _ _ (PySem.call (Value.ref _) _) _ _ _); refine halt ?_))
  k_with "my:k_room" => (((try simp only [depth_mark, depth_under_make, depth_under_kw, depth_in1, depth_deeper, depth_caller]); (try dsimp only); omega))
  trivial
section
variable {prog : Program} {w : World} {A : Around} {s : Shared} {base : Heap} {outer : List Env} {mean : ExcName → Option Value} {mg mb : Str → Option Value}
  {R : Result → Shared → Prop} {st ds sf uns uX duX fX dfX rcX nbX fD dfD rcD nbD fS dfS rcS nbS T f df rc nb : Addr} {uo so : Obj} {ks t1 t2 t3 t4 t5 : Tok} {fm fmX acc : PySem.Str} {len lenX : Int} {uiX : UI} {pX : Value} {a1 a2 a3 a4 a5 a6 a7 a8 a9 a10 b1 b2 b3 b4 b5 b6 b7 b8 b9 b10 : Tok}
theorem unone0 (S : St w mean mg mb base) (B : Below A base outer s.heap) (Rm : Room A 6) (H : Has base outer s.heap [(uns, uo)]) (D : Dist [(uns, uo)]) (huo : uo.IsDictOf (PySem.intKind prog w) []) (lo : (uns == sysModules) = false)
    (k : ∀ h' tk, Step [] [] s.heap h' → R (.ok (.ret .none)) { s with heap := h', toks := tk }) :
    codeAny (model prog w) A (.call (.ref 181) ⟨[.ref uns, .str fm t1], []⟩) R s := by
  have hdp := Rm.dep
  have hun := Rm.uni
  obtain ⟨ha, dp, fr, gd, un⟩ := A
  obtain rfl : ha = none := Rm.han
  obtain rfl : fr = some outer := B.stack
  refine' enter [(uns, uo)] S B Rm.d H ?ho ?hcd ?hbind ?hloc ?h ?hco ?hgen ?hk ?hcell
  walk_at "my_enter"
  intro g L' h₁ F N B' X T hold hg hL
  have T0 : KtsTurn (fs outer) g g := KtsTurn.refl
  obtain ⟨D0, _⟩ := D
  dsimp only
  try k_fold
  (try dsimp only at hdp hun)
  have hu3 : un + 3 + 64 < cLine := by omega
  (try dsimp only [fileD] at N)
  k_steps
  (try show R (.ok (.ret _)) _)
  (rename Fr _ _ _ _ => F9)
  exact k _ _ (step_cut (end0 hold F9) H (by walk_at "my_ro"))
theorem unoneD (S : St w mean mg mb base) (B : Below A base outer s.heap) (Rm : Room A 6) (H : Has base outer s.heap [(uns, uo), (uX, instObj 142 duX), (duX, unitD w uiX fX pX), (fX, instObj 100 dfX), (dfX, fileD w ⟨a1, a2, a3, a4, a5, a6, a7, a8, a9, a10, PySem.Str.ofString "D", fmX, lenX⟩ acc rcX nbX)]) (D : Dist [(uns, uo), (uX, instObj 142 duX), (duX, unitD w uiX fX pX), (fX, instObj 100 dfX), (dfX, fileD w ⟨a1, a2, a3, a4, a5, a6, a7, a8, a9, a10, PySem.Str.ofString "D", fmX, lenX⟩ acc rcX nbX)]) (huo : uo.IsDictOf (PySem.intKind prog w) [(3, .ref uX)]) (lo : (uns == sysModules) = false)
    (k : ∀ h' tk, Step [] [] s.heap h' → R (.ok (.ret .none)) { s with heap := h', toks := tk }) :
    codeAny (model prog w) A (.call (.ref 181) ⟨[.ref uns, .str (PySem.Str.ofString "S") t1], []⟩) R s := by
  have hdp := Rm.dep
  have hun := Rm.uni
  obtain ⟨ha, dp, fr, gd, un⟩ := A
  obtain rfl : ha = none := Rm.han
  obtain rfl : fr = some outer := B.stack
  refine' enter [(uns, uo), (uX, instObj 142 duX), (duX, unitD w uiX fX pX), (fX, instObj 100 dfX), (dfX, fileD w ⟨a1, a2, a3, a4, a5, a6, a7, a8, a9, a10, PySem.Str.ofString "D", fmX, lenX⟩ acc rcX nbX)] S B Rm.d H ?ho ?hcd ?hbind ?hloc ?h ?hco ?hgen ?hk ?hcell
  walk_at "my_enter"
  intro g L' h₁ F N B' X T hold hg hL
  have T0 : KtsTurn (fs outer) g g := KtsTurn.refl
  obtain ⟨D0, D1, D2, D3, D4, _⟩ := D
  dsimp only
  try k_fold
  (try dsimp only at hdp hun)
  have hu3 : un + 3 + 64 < cLine := by omega
  (try dsimp only [fileD] at N)
  k_steps
  (try show R (.ok (.ret _)) _)
  (rename Fr _ _ _ _ => F9)
  exact k _ _ (step_cut (end0 hold F9) H (by walk_at "my_ro"))
noncomputable def unoneS_s : (Rq : Program → World → Shared → Heap → List Env → (ExcName → Option Value) → (Str → Option Value) → (Str → Option Value) → (Result → Shared → Prop) → Addr → Addr → Addr → Addr → Addr → Addr → Addr → Obj → Tok → PySem.Str → PySem.Str → Int → UI → Value → Tok → Tok → Tok → Tok → Tok → Tok → Tok → Tok → Tok → Tok → Nat → Option (List Code) → Nat → Heap → Addr → Heap → Prop) ×' ((∀ (prog : Program) (w : World) (s : Shared) (base : Heap) (outer : List Env) (mean : ExcName → Option Value) (mg : Str → Option Value) (mb : Str → Option Value) (R : Result → Shared → Prop) (uns : Addr) (uX : Addr) (duX : Addr) (fX : Addr) (dfX : Addr) (rcX : Addr) (nbX : Addr) (uo : Obj) (t1 : Tok) (fmX : PySem.Str) (acc : PySem.Str) (lenX : Int) (uiX : UI) (pX : Value) (a1 : Tok) (a2 : Tok) (a3 : Tok) (a4 : Tok) (a5 : Tok) (a6 : Tok) (a7 : Tok) (a8 : Tok) (a9 : Tok) (a10 : Tok) (dp : Nat) (gd : Option (List Code)) (un : Nat) (g : Heap) (L' : Addr) (h₁ : Heap), Rq prog w s base outer mean mg mb R uns uX duX fX dfX rcX nbX uo t1 fmX acc lenX uiX pX a1 a2 a3 a4 a5 a6 a7 a8 a9 a10 dp gd un g L' h₁) → ∀ (A : Around) (prog : Program) (w : World) (s : Shared) (base : Heap) (outer : List Env) (mean : ExcName → Option Value) (mg : Str → Option Value) (mb : Str → Option Value) (R : Result → Shared → Prop) (uns : Addr) (uX : Addr) (duX : Addr) (fX : Addr) (dfX : Addr) (rcX : Addr) (nbX : Addr) (uo : Obj) (t1 : Tok) (fmX : PySem.Str) (acc : PySem.Str) (lenX : Int) (uiX : UI) (pX : Value) (a1 : Tok) (a2 : Tok) (a3 : Tok) (a4 : Tok) (a5 : Tok) (a6 : Tok) (a7 : Tok) (a8 : Tok) (a9 : Tok) (a10 : Tok) (S : St w mean mg mb base) (B : Below A base outer s.heap) (Rm : Room A 6) (H : Has base outer s.heap [(uns, uo), (uX, instObj 142 duX), (duX, unitD w uiX fX pX), (fX, instObj 100 dfX), (dfX, fileD w ⟨a1, a2, a3, a4, a5, a6, a7, a8, a9, a10, PySem.Str.ofString "S", fmX, lenX⟩ acc rcX nbX)]) (D : Dist [(uns, uo), (uX, instObj 142 duX), (duX, unitD w uiX fX pX), (fX, instObj 100 dfX), (dfX, fileD w ⟨a1, a2, a3, a4, a5, a6, a7, a8, a9, a10, PySem.Str.ofString "S", fmX, lenX⟩ acc rcX nbX)]) (huo : uo.IsDictOf (PySem.intKind prog w) [(7, .ref uX)]) (lo : (uns == sysModules) = false) (k : ∀ h' tk, Step [] [] s.heap h' → R (.ok (.ret .none)) { s with heap := h', toks := tk }), codeAny (model prog w) A (.call (.ref 181) ⟨[.ref uns, .str (PySem.Str.ofString "D") t1], []⟩) R s) := by
  refine ⟨?Rq, fun kHq A prog w s base outer mean mg mb R uns uX duX fX dfX rcX nbX uo t1 fmX acc lenX uiX pX a1 a2 a3 a4 a5 a6 a7 a8 a9 a10 S B Rm H D huo lo k => ?pfq⟩
  case pfq =>
    have hdp := Rm.dep
    have hun := Rm.uni
    obtain ⟨ha, dp, fr, gd, un⟩ := A
    obtain rfl : ha = none := Rm.han
    obtain rfl : fr = some outer := B.stack
    refine' enter [(uns, uo), (uX, instObj 142 duX), (duX, unitD w uiX fX pX), (fX, instObj 100 dfX), (dfX, fileD w ⟨a1, a2, a3, a4, a5, a6, a7, a8, a9, a10, PySem.Str.ofString "S", fmX, lenX⟩ acc rcX nbX)] S B Rm.d H ?ho ?hcd ?hbind ?hloc ?h ?hco ?hgen ?hk ?hcell
    walk_at "my_enter"
    intro g L' h₁ F N B' X T hold hg hL
    have T0 : KtsTurn (fs outer) g g := KtsTurn.refl
    obtain ⟨D0, D1, D2, D3, D4, _⟩ := D
    revert D4; revert D3; revert D2; revert D1; revert D0; revert T0; revert hL; revert hg; revert hold; revert T; revert X; revert B'; revert N; revert F; revert hun; revert hdp; revert k; revert lo; revert huo; revert H; revert Rm; revert B; revert S
    exact kHq prog w s base outer mean mg mb R uns uX duX fX dfX rcX nbX uo t1 fmX acc lenX uiX pX a1 a2 a3 a4 a5 a6 a7 a8 a9 a10 dp gd un g L' h₁
noncomputable def unoneS_q (x : ((((((Program × World) × Shared) × (Heap × List Env)) × ((((ExcName → Option Value) × (Str → Option Value)) × (Str → Option Value)) × ((Result → Shared → Prop) × Addr))) × ((((Addr × Addr) × Addr) × (Addr × Addr)) × (((Addr × Obj) × Tok) × (PySem.Str × PySem.Str)))) × (((((Int × UI) × Value) × (Tok × Tok)) × (((Tok × Tok) × Tok) × (Tok × Tok))) × ((((Tok × Tok) × Tok) × (Nat × Option (List Code))) × ((Nat × Heap) × (Addr × Heap)))))) : Prop := unoneS_s.1 x.1.1.1.1.1.1 x.1.1.1.1.1.2 x.1.1.1.1.2 x.1.1.1.2.1 x.1.1.1.2.2 x.1.1.2.1.1.1 x.1.1.2.1.1.2 x.1.1.2.1.2 x.1.1.2.2.1 x.1.1.2.2.2 x.1.2.1.1.1.1 x.1.2.1.1.1.2 x.1.2.1.1.2 x.1.2.1.2.1 x.1.2.1.2.2 x.1.2.2.1.1.1 x.1.2.2.1.1.2 x.1.2.2.1.2 x.1.2.2.2.1 x.1.2.2.2.2 x.2.1.1.1.1.1 x.2.1.1.1.1.2 x.2.1.1.1.2 x.2.1.1.2.1 x.2.1.1.2.2 x.2.1.2.1.1.1 x.2.1.2.1.1.2 x.2.1.2.1.2 x.2.1.2.2.1 x.2.1.2.2.2 x.2.2.1.1.1.1 x.2.2.1.1.1.2 x.2.2.1.1.2 x.2.2.1.2.1 x.2.2.1.2.2 x.2.2.2.1.1 x.2.2.2.1.2 x.2.2.2.2.1 x.2.2.2.2.2
noncomputable def unoneS_c := @Classical.epsilon _ ⟨((((((PySem.Challenge.pw_sa0211_01, aWorld 1), {}), ({}, [])), (((fun _ => none, fun _ => none), fun _ => none), (fun _ _ => True, 0))), ((((0, 0), 0), (0, 0)), (((0, instObj 0 0), 0), (Str.ofString "", Str.ofString "")))), (((((0, ⟨0, 0, 0, 0, .none, .none⟩), .none), (0, 0)), (((0, 0), 0), (0, 0))), ((((0, 0), 0), (0, none)), ((0, {}), (0, {})))))⟩ fun x => ¬ unoneS_q x
theorem unoneS_k : unoneS_q unoneS_c := by
  refine (?fq : ∀ (prog : Program) (w : World) (s : Shared) (base : Heap) (outer : List Env) (mean : ExcName → Option Value) (mg : Str → Option Value) (mb : Str → Option Value) (R : Result → Shared → Prop) (uns : Addr) (uX : Addr) (duX : Addr) (fX : Addr) (dfX : Addr) (rcX : Addr) (nbX : Addr) (uo : Obj) (t1 : Tok) (fmX : PySem.Str) (acc : PySem.Str) (lenX : Int) (uiX : UI) (pX : Value) (a1 : Tok) (a2 : Tok) (a3 : Tok) (a4 : Tok) (a5 : Tok) (a6 : Tok) (a7 : Tok) (a8 : Tok) (a9 : Tok) (a10 : Tok) (dp : Nat) (gd : Option (List Code)) (un : Nat) (g : Heap) (L' : Addr) (h₁ : Heap), unoneS_s.1 prog w s base outer mean mg mb R uns uX duX fX dfX rcX nbX uo t1 fmX acc lenX uiX pX a1 a2 a3 a4 a5 a6 a7 a8 a9 a10 dp gd un g L' h₁) _ _ _ _ _ _ _ _ _ _ _ _ _ _ _ _ _ _ _ _ _ _ _ _ _ _ _ _ _ _ _ _ _ _ _ _ _ _ _ 
  intro prog w s base outer mean mg mb R uns uX duX fX dfX rcX nbX uo t1 fmX acc lenX uiX pX a1 a2 a3 a4 a5 a6 a7 a8 a9 a10 dp gd un g L' h₁ S B Rm H huo lo k hdp hun F N B' X T hold hg hL T0 D0 D1 D2 D3 D4
  dsimp only
  try k_fold
  (try dsimp only at hdp hun)
  have hu3 : un + 3 + 64 < cLine := by omega
  (try dsimp only [fileD] at N)
  k_steps
  (try show R (.ok (.ret _)) _)
  (rename Fr _ _ _ _ => F9)
  exact k _ _ (step_cut (end0 hold F9) H (by walk_at "my_ro"))
theorem unoneS  (S : St w mean mg mb base) (B : Below A base outer s.heap) (Rm : Room A 6) (H : Has base outer s.heap [(uns, uo), (uX, instObj 142 duX), (duX, unitD w uiX fX pX), (fX, instObj 100 dfX), (dfX, fileD w ⟨a1, a2, a3, a4, a5, a6, a7, a8, a9, a10, PySem.Str.ofString "S", fmX, lenX⟩ acc rcX nbX)]) (D : Dist [(uns, uo), (uX, instObj 142 duX), (duX, unitD w uiX fX pX), (fX, instObj 100 dfX), (dfX, fileD w ⟨a1, a2, a3, a4, a5, a6, a7, a8, a9, a10, PySem.Str.ofString "S", fmX, lenX⟩ acc rcX nbX)]) (huo : uo.IsDictOf (PySem.intKind prog w) [(7, .ref uX)]) (lo : (uns == sysModules) = false)
    (k : ∀ h' tk, Step [] [] s.heap h' → R (.ok (.ret .none)) { s with heap := h', toks := tk }) :
    codeAny (model prog w) A (.call (.ref 181) ⟨[.ref uns, .str (PySem.Str.ofString "D") t1], []⟩) R s :=
  unoneS_s.2 (fun prog w s base outer mean mg mb R uns uX duX fX dfX rcX nbX uo t1 fmX acc lenX uiX pX a1 a2 a3 a4 a5 a6 a7 a8 a9 a10 dp gd un g L' h₁ => hk_ax (P := unoneS_q) _ unoneS_k ((((((prog, w), s), (base, outer)), (((mean, mg), mb), (R, uns))), ((((uX, duX), fX), (dfX, rcX)), (((nbX, uo), t1), (fmX, acc)))), (((((lenX, uiX), pX), (a1, a2)), (((a3, a4), a5), (a6, a7))), ((((a8, a9), a10), (dp, gd)), ((un, g), (L', h₁)))))) A prog w s base outer mean mg mb R uns uX duX fX dfX rcX nbX uo t1 fmX acc lenX uiX pX a1 a2 a3 a4 a5 a6 a7 a8 a9 a10 S B Rm H D huo lo k
end
end
section
open PySem PySem.W PyProof.Rows PySem.Spec PySem.Calls PyProof.Rows.LCg PySem.SeqAt
theorem line_M42_1 : True := by
  k_with_none
  w_top off
  k_with "my:k_mem" => (first | exact m0_ | exact m1_ | exact m2_ | exact m3_ | exact m4_ | exact m5_ | exact m6_ | exact m7_ | (refine m8s_ ?_; k_mem))
  k_with "my:k_ne" => (((try dsimp only); first
  | exact AllNe.mem (by assumption) (_, _) (by k_mem)
  | exact Ne.symm (AllNe.mem (by assumption) (_, _) (by k_mem))
  | assumption
  | exact Ne.symm (by assumption)
  | exact Nat.ne_of_lt (lt_at (by assumption) (by k_mem))
  | exact Nat.ne_of_gt (lt_at (by assumption) (by k_mem))
  | (refine neN ?_; omega)))
  k_with "my_enter" => ((
  (case ho => k_is)
  (case hcd => k_is)
  (case hbind => exact BindsTo.of_eq rfl)
  (case hloc => exact locs rfl)
  (case hco => exact rfl)
  (case hgen => exact rfl)
  (case hk => exact rfl)
  (case hcell => decide)))
  k_with "my_dist" => (((simp only [Dist, AllNe, and_true]); (repeat' (refine And.intro ?_ ?_)); all_goals k_ne))
  k_with "my_sub" => (first | exact List.forall_mem_nil _ | (refine List.forall_mem_cons.mpr ⟨?aZ, ?bZ⟩; (case aZ => k_mem); (case bZ => walk_at "my_sub")) | exact fun _ hq => by ((repeat refine List.Mem.tail _ ?_); exact hq))
  k_with "my_mems" => (first | exact List.forall_mem_nil _ | (refine List.forall_mem_cons.mpr ⟨?aZ, ?bZ⟩; (case aZ => k_mem); (case bZ => walk_at "my_mems")))
  k_with "my_ro" => (first | exact List.forall_mem_nil _ | (refine List.forall_mem_cons.mpr ⟨?aZ, ?bZ⟩; (case aZ => first | exact fun _ => News.get (by k_asm) (by k_mem) | exact fun hn => absurd (by simp) hn); (case bZ => walk_at "my_ro")) | exact fun _ hq _ => News.get (by k_asm) (by ((repeat refine List.Mem.tail _ ?_); exact hq)))
  k_with "my_bsne" => (first | exact List.forall_mem_nil _ | (refine List.forall_mem_cons.mpr ⟨?aZ, ?bZ⟩; (case aZ => k_ne); (case bZ => walk_at "my_bsne")) | exact OffR.all (by assumption))
  k_with "call ref" => ((k_here; (with_reducible show wpAny _ _ (PySem.call (Value.ref _) _) _ _ _); refine halt ?_))
  trivial
theorem tup3 {rs : List (Addr × Obj)} {T : Addr} {x y : PySem.Str} {c : Int} {t1 t2 t3 : Tok} (hx : shaped (.tuple [.str x, .str y, .int c]) = true) (h : (T, tupO [.str x t1, .str y t2, .int c t3]) ∈ rs) : RecD rs (.ref T) (.tuple [.str x, .str y, .int c]) :=
  ⟨hx, fun hp hh => ⟨_, .tuple (hh _ h) rfl rfl (.cons (.str _ _) (.cons (.str _ _) (.cons (.int _ _) .nil)))⟩⟩
theorem fmShape {x fm : PySem.Str} {c : Int} (h : fm = PySem.Str.ofString "FORMATTED" ∨ fm = PySem.Str.ofString "UNFORMATTED") (hx : shaped (.str x) = true) : shaped (.tuple [.str x, .str fm, .int c]) = true := by
  have e : PyData.canLay0 (.str x) = true := canLay_of_shaped hx
  have e1 : PyData.canLay0 (.str (PySem.Str.ofString "FORMATTED")) = true := by decide +kernel
  have e2 : PyData.canLay0 (.str (PySem.Str.ofString "UNFORMATTED")) = true := by decide +kernel
  rcases h with rfl | rfl <;> simp [shaped, PyData.canLay0, PyData.canLayAll0, PyData.depth, PyData.depthAll, e, e1, e2] <;> simp_all [PyData.canLay0]
theorem line_M42_2 : True := by
  k_with "compareOp NotEq ref ref" => ((k_here; k_dflt (refine' cmpNe ?NZ (fun _ hq => hq) ?aZ ?bZ ?uZ ?_; (case NZ => k_asm); (case aZ => (refine' tup3 ?x1Z ?h1Z; (case h1Z => k_mem); (case x1Z => exact fmShape (by assumption) (by assumption)))); (case bZ => (refine' tup3 ?x2Z ?h2Z; (case h2Z => k_mem); (case x2Z => exact fmShape (by assumption) (by assumption)))); (case uZ => assumption))))
  trivial
section
variable {prog : Program} {w : World} {A : Around} {s : Shared} {base g : Heap} {outer : List Env} {mean : ExcName → Option Value} {mg mb : Str → Option Value}
  {R : Result → Shared → Prop} {st ds sf T f df rc nb fD fS : Addr} {so : Obj} {ks t1 t2 t3 t4 t5 : Tok} {nm fm acc : PySem.Str} {len : Int} {a1 a2 a3 a4 a5 a6 a7 a8 a9 a10 : Tok}
  {L : Addr} {m : Str → Option Value} {news : List (Addr × Obj)} {env : Env} {Q E : Value → Shared → Prop}
theorem check (S : St w mean mg mb base) (B : Below A base outer s.heap) (Rm : Room A 4) (H : Has base outer s.heap [(f, instObj 100 df), (df, fileD w ⟨a1, a2, a3, a4, a5, a6, a7, a8, a9, a10, nm, fm, len⟩ acc rc nb), (T, tupO [.str acc t3, .str fm t4, .int len t5])]) (D : Dist [(f, instObj 100 df), (df, fileD w ⟨a1, a2, a3, a4, a5, a6, a7, a8, a9, a10, nm, fm, len⟩ acc rc nb), (T, tupO [.str acc t3, .str fm t4, .int len t5])]) (hfm : fm = PySem.Str.ofString "FORMATTED" ∨ fm = PySem.Str.ofString "UNFORMATTED") (hacc : shaped (.str acc) = true)
    (k : ∀ h' tk, Step [] [] s.heap h' → R (.ok (.ret .none)) { s with heap := h', toks := tk }) :
    codeAny (model prog w) A (.call (.ref 174) ⟨[.ref f, .ref T], []⟩) R s := by
  have hdp := Rm.dep
  have hun := Rm.uni
  obtain ⟨ha, dp, fr, gd, un⟩ := A
  obtain rfl : ha = none := Rm.han
  obtain rfl : fr = some outer := B.stack
  refine' enter [(f, instObj 100 df), (df, fileD w ⟨a1, a2, a3, a4, a5, a6, a7, a8, a9, a10, nm, fm, len⟩ acc rc nb), (T, tupO [.str acc t3, .str fm t4, .int len t5])] S B Rm.d H ?ho ?hcd ?hbind ?hloc ?h ?hco ?hgen ?hk ?hcell
  walk_at "my_enter"
  intro g L' h₁ F N B' X T hold hg hL
  have T0 : KtsTurn (fs outer) g g := KtsTurn.refl
  obtain ⟨D0, D1, D2, _⟩ := D
  dsimp only
  try k_fold
  (try dsimp only at hdp hun)
  have hu3 : un + 3 + 64 < cLine := by omega
  (try dsimp only [fileD] at N)
  k_steps
  (try show R (.ok (.ret _)) _)
  (rename Fr _ _ _ _ => F9)
  exact k _ _ (step_cut (end0 hold F9) H (by walk_at "my_ro"))
theorem check_K {hpS : Heap} {gnS : Array GenState} {drS : Drawn} {tkS : Nat} {osS : OsState} (S : St w mean mg mb base) (B : Below A base outer g) (F : Fr g L hpS m) (N : News g L hpS news) (Rm : Room A 5) (h1 : ∀ q ∈ [(f, instObj 100 df), (df, fileD w ⟨a1, a2, a3, a4, a5, a6, a7, a8, a9, a10, nm, fm, len⟩ acc rc nb), (T, tupO [.str acc t3, .str fm t4, .int len t5])], q ∈ news) (D : Dist [(f, instObj 100 df), (df, fileD w ⟨a1, a2, a3, a4, a5, a6, a7, a8, a9, a10, nm, fm, len⟩ acc rc nb), (T, tupO [.str acc t3, .str fm t4, .int len t5])]) (hfm : fm = PySem.Str.ofString "FORMATTED" ∨ fm = PySem.Str.ofString "UNFORMATTED") (hacc : shaped (.str acc) = true)
    (kk : ∀ h' tk, Fr g L h' m → News g L h' news → Q .none ⟨h', gnS, drS, tk, osS⟩) (hf : env.frame = some L := by rfl) (hk : env.scope.kind = .function := by rfl) :
    wpAny (model prog w) (A.deeper env) (call (.ref 174) [.ref f, .ref T]) Q E ⟨hpS, gnS, drS, tkS, osS⟩ := by
  refine wpAny_call (check S (pushX B F hf hk) (Rm.deeper (by decide)) (has_ofX hf B N h1) D hfm hacc fun h' tk x1 => ?_)
  obtain ⟨F', N'⟩ := use00 F N x1
  exact kk h' tk F' N'
noncomputable def foundA_s : (Rq : Program → World → Shared → Heap → List Env → (ExcName → Option Value) → (Str → Option Value) → (Str → Option Value) → (Result → Shared → Prop) → Addr → Addr → Addr → Addr → Obj → Tok → Tok → Tok → Tok → Tok → Tok → PySem.Str → PySem.Str → Int → Nat → Option (List Code) → Nat → Heap → Addr → Heap → Prop) ×' ((∀ (prog : Program) (w : World) (s : Shared) (base : Heap) (outer : List Env) (mean : ExcName → Option Value) (mg : Str → Option Value) (mb : Str → Option Value) (R : Result → Shared → Prop) (st : Addr) (ds : Addr) (sf : Addr) (T : Addr) (so : Obj) (ks : Tok) (t1 : Tok) (t2 : Tok) (t3 : Tok) (t4 : Tok) (t5 : Tok) (fm : PySem.Str) (acc : PySem.Str) (len : Int) (dp : Nat) (gd : Option (List Code)) (un : Nat) (g : Heap) (L' : Addr) (h₁ : Heap), Rq prog w s base outer mean mg mb R st ds sf T so ks t1 t2 t3 t4 t5 fm acc len dp gd un g L' h₁) → ∀ (A : Around) (prog : Program) (w : World) (s : Shared) (base : Heap) (outer : List Env) (mean : ExcName → Option Value) (mg : Str → Option Value) (mb : Str → Option Value) (R : Result → Shared → Prop) (st : Addr) (ds : Addr) (sf : Addr) (T : Addr) (so : Obj) (ks : Tok) (t1 : Tok) (t2 : Tok) (t3 : Tok) (t4 : Tok) (t5 : Tok) (fm : PySem.Str) (acc : PySem.Str) (len : Int) (S : St w mean mg mb base) (B : Below A base outer s.heap) (Rm : Room A 7) (H : Has base outer s.heap [(st, instObj 121 ds), (ds, storeD w ks sf), (sf, so), (T, tupO [.str acc t3, .str fm t4, .int len t5])]) (D : Dist [(st, instObj 121 ds), (ds, storeD w ks sf), (sf, so), (T, tupO [.str acc t3, .str fm t4, .int len t5])]) (hso : so.IsDictOf (PySem.strKind prog w) []) (lo : (sf == sysModules) = false) (k : ∀ h' tk f df fi rc rn nb no so', Step [] [sf] s.heap h' → h'.get? f = some (instObj 100 df) → h'.get? df = some (fileD w fi acc rc nb) → h'.get? rc = some (listOf #[] rn) → h'.get? nb = some no → no.IsDictOf (PySem.intKind prog w) [] → (nb == sysModules) = false →
      h'.get? sf = some so' → so'.IsDictOf (PySem.strKind prog w) [(PySem.Str.ofString "D", .ref f)] → fi.nm = PySem.Str.ofString "D" → fi.fm = fm → fi.len = len →
      s.heap.get? f = none → s.heap.get? df = none → s.heap.get? rc = none → s.heap.get? nb = none → Dist [(f, instObj 100 df), (df, fileD w fi acc rc nb), (rc, listOf #[] rn), (nb, no)] → R (.ok (.ret (.ref f))) { s with heap := h', toks := tk }), codeAny (model prog w) A (.call (.ref 188) ⟨[.ref st, .str (PySem.Str.ofString "D") t1, .str (PySem.Str.ofString "UNKNOWN") t2, .ref T], []⟩) R s) := by
  refine ⟨?Rq, fun kHq A prog w s base outer mean mg mb R st ds sf T so ks t1 t2 t3 t4 t5 fm acc len S B Rm H D hso lo k => ?pfq⟩
  case pfq =>
    have hdp := Rm.dep
    have hun := Rm.uni
    obtain ⟨ha, dp, fr, gd, un⟩ := A
    obtain rfl : ha = none := Rm.han
    obtain rfl : fr = some outer := B.stack
    refine' enter [(st, instObj 121 ds), (ds, storeD w ks sf), (sf, so), (T, tupO [.str acc t3, .str fm t4, .int len t5])] S B Rm.d H ?ho ?hcd ?hbind ?hloc ?h ?hco ?hgen ?hk ?hcell
    walk_at "my_enter"
    intro g L' h₁ F N B' X T hold hg hL
    have T0 : KtsTurn (fs outer) g g := KtsTurn.refl
    obtain ⟨D0, D1, D2, D3, _⟩ := D
    revert D3; revert D2; revert D1; revert D0; revert T0; revert hL; revert hg; revert hold; revert T; revert X; revert B'; revert N; revert F; revert hun; revert hdp; revert k; revert lo; revert hso; revert H; revert Rm; revert B; revert S
    exact kHq prog w s base outer mean mg mb R st ds sf T so ks t1 t2 t3 t4 t5 fm acc len dp gd un g L' h₁
noncomputable def foundA_q (x : (((((Program × World) × (Shared × Heap)) × ((List Env × (ExcName → Option Value)) × ((Str → Option Value) × (Str → Option Value)))) × ((((Result → Shared → Prop) × Addr) × (Addr × Addr)) × ((Addr × Obj) × Tok))) × ((((Tok × Tok) × (Tok × Tok)) × ((Tok × PySem.Str) × PySem.Str)) × (((Int × Nat) × (Option (List Code) × Nat)) × ((Heap × Addr) × Heap))))) : Prop := foundA_s.1 x.1.1.1.1.1 x.1.1.1.1.2 x.1.1.1.2.1 x.1.1.1.2.2 x.1.1.2.1.1 x.1.1.2.1.2 x.1.1.2.2.1 x.1.1.2.2.2 x.1.2.1.1.1 x.1.2.1.1.2 x.1.2.1.2.1 x.1.2.1.2.2 x.1.2.2.1.1 x.1.2.2.1.2 x.1.2.2.2 x.2.1.1.1.1 x.2.1.1.1.2 x.2.1.1.2.1 x.2.1.1.2.2 x.2.1.2.1.1 x.2.1.2.1.2 x.2.1.2.2 x.2.2.1.1.1 x.2.2.1.1.2 x.2.2.1.2.1 x.2.2.1.2.2 x.2.2.2.1.1 x.2.2.2.1.2 x.2.2.2.2
noncomputable def foundA_c := @Classical.epsilon _ ⟨(((((PySem.Challenge.pw_sa0211_01, aWorld 1), ({}, {})), (([], fun _ => none), (fun _ => none, fun _ => none))), (((fun _ _ => True, 0), (0, 0)), ((0, instObj 0 0), 0))), ((((0, 0), (0, 0)), ((0, Str.ofString ""), Str.ofString "")), (((0, 0), (none, 0)), (({}, 0), {}))))⟩ fun x => ¬ foundA_q x
theorem foundA_k : foundA_q foundA_c := by
  refine (?fq : ∀ (prog : Program) (w : World) (s : Shared) (base : Heap) (outer : List Env) (mean : ExcName → Option Value) (mg : Str → Option Value) (mb : Str → Option Value) (R : Result → Shared → Prop) (st : Addr) (ds : Addr) (sf : Addr) (T : Addr) (so : Obj) (ks : Tok) (t1 : Tok) (t2 : Tok) (t3 : Tok) (t4 : Tok) (t5 : Tok) (fm : PySem.Str) (acc : PySem.Str) (len : Int) (dp : Nat) (gd : Option (List Code)) (un : Nat) (g : Heap) (L' : Addr) (h₁ : Heap), foundA_s.1 prog w s base outer mean mg mb R st ds sf T so ks t1 t2 t3 t4 t5 fm acc len dp gd un g L' h₁) _ _ _ _ _ _ _ _ _ _ _ _ _ _ _ _ _ _ _ _ _ _ _ _ _ _ _ _ _ 
  intro prog w s base outer mean mg mb R st ds sf T so ks t1 t2 t3 t4 t5 fm acc len dp gd un g L' h₁ S B Rm H hso lo k hdp hun F N B' X T hold hg hL T0 D0 D1 D2 D3
  dsimp only
  try k_fold
  (try dsimp only at hdp hun)
  have hu3 : un + 3 + 64 < cLine := by omega
  (try dsimp only [fileD] at N)
  k_steps
  unfold Halt
  refine' file_K ?yS ?yB ?yF ?yN ?yR ?y_
  case yS => assumption
  case yB => assumption
  case yF => k_asm
  case yN => k_asm
  case yR => exact Room.less (by assumption) (by decide)
  intro h1 tk1 f df fi rc rn nb no F1 N1 hno lo1 e1 e2 e3 n1 n2 n3 n4 m1 m2 m3 m4 m5 m6
  k_steps
  (try show R (.ok (.ret _)) _)
  (rename Fr _ _ _ _ => F9)
  (rename News _ _ _ _ => N9)
  refine k _ _ f df fi rc rn nb no _ (step_cut (end0 hold F9) H (by walk_at "my_ro")) (N9.get (by k_mem)) (N9.get (by k_mem)) (N9.get (by k_mem)) (N9.get (by k_mem)) hno lo1 (N9.get (by k_mem)) (by assumption) e1 e2 e3 ?_ ?_ ?_ ?_ ?_
  iterate 4 (refine fresh_in hold N9 (by k_mem) ?_; walk_at "my_bsne")
  walk_at "my_dist"
theorem foundA  (S : St w mean mg mb base) (B : Below A base outer s.heap) (Rm : Room A 7) (H : Has base outer s.heap [(st, instObj 121 ds), (ds, storeD w ks sf), (sf, so), (T, tupO [.str acc t3, .str fm t4, .int len t5])]) (D : Dist [(st, instObj 121 ds), (ds, storeD w ks sf), (sf, so), (T, tupO [.str acc t3, .str fm t4, .int len t5])]) (hso : so.IsDictOf (PySem.strKind prog w) []) (lo : (sf == sysModules) = false)
    (k : ∀ h' tk f df fi rc rn nb no so', Step [] [sf] s.heap h' → h'.get? f = some (instObj 100 df) → h'.get? df = some (fileD w fi acc rc nb) → h'.get? rc = some (listOf #[] rn) → h'.get? nb = some no → no.IsDictOf (PySem.intKind prog w) [] → (nb == sysModules) = false →
      h'.get? sf = some so' → so'.IsDictOf (PySem.strKind prog w) [(PySem.Str.ofString "D", .ref f)] → fi.nm = PySem.Str.ofString "D" → fi.fm = fm → fi.len = len →
      s.heap.get? f = none → s.heap.get? df = none → s.heap.get? rc = none → s.heap.get? nb = none → Dist [(f, instObj 100 df), (df, fileD w fi acc rc nb), (rc, listOf #[] rn), (nb, no)] → R (.ok (.ret (.ref f))) { s with heap := h', toks := tk }) :
    codeAny (model prog w) A (.call (.ref 188) ⟨[.ref st, .str (PySem.Str.ofString "D") t1, .str (PySem.Str.ofString "UNKNOWN") t2, .ref T], []⟩) R s :=
  foundA_s.2 (fun prog w s base outer mean mg mb R st ds sf T so ks t1 t2 t3 t4 t5 fm acc len dp gd un g L' h₁ => hk_ax (P := foundA_q) _ foundA_k (((((prog, w), (s, base)), ((outer, mean), (mg, mb))), (((R, st), (ds, sf)), ((T, so), ks))), ((((t1, t2), (t3, t4)), ((t5, fm), acc)), (((len, dp), (gd, un)), ((g, L'), h₁))))) A prog w s base outer mean mg mb R st ds sf T so ks t1 t2 t3 t4 t5 fm acc len S B Rm H D hso lo k
noncomputable def foundB_s : (Rq : Program → World → Shared → Heap → List Env → (ExcName → Option Value) → (Str → Option Value) → (Str → Option Value) → (Result → Shared → Prop) → Addr → Addr → Addr → Addr → Addr → Obj → Tok → Tok → Tok → Tok → Tok → Tok → PySem.Str → PySem.Str → Int → Nat → Option (List Code) → Nat → Heap → Addr → Heap → Prop) ×' ((∀ (prog : Program) (w : World) (s : Shared) (base : Heap) (outer : List Env) (mean : ExcName → Option Value) (mg : Str → Option Value) (mb : Str → Option Value) (R : Result → Shared → Prop) (st : Addr) (ds : Addr) (sf : Addr) (T : Addr) (fD : Addr) (so : Obj) (ks : Tok) (t1 : Tok) (t2 : Tok) (t3 : Tok) (t4 : Tok) (t5 : Tok) (fm : PySem.Str) (acc : PySem.Str) (len : Int) (dp : Nat) (gd : Option (List Code)) (un : Nat) (g : Heap) (L' : Addr) (h₁ : Heap), Rq prog w s base outer mean mg mb R st ds sf T fD so ks t1 t2 t3 t4 t5 fm acc len dp gd un g L' h₁) → ∀ (A : Around) (prog : Program) (w : World) (s : Shared) (base : Heap) (outer : List Env) (mean : ExcName → Option Value) (mg : Str → Option Value) (mb : Str → Option Value) (R : Result → Shared → Prop) (st : Addr) (ds : Addr) (sf : Addr) (T : Addr) (fD : Addr) (so : Obj) (ks : Tok) (t1 : Tok) (t2 : Tok) (t3 : Tok) (t4 : Tok) (t5 : Tok) (fm : PySem.Str) (acc : PySem.Str) (len : Int) (S : St w mean mg mb base) (B : Below A base outer s.heap) (Rm : Room A 7) (H : Has base outer s.heap [(st, instObj 121 ds), (ds, storeD w ks sf), (sf, so), (T, tupO [.str acc t3, .str fm t4, .int len t5])]) (D : Dist [(st, instObj 121 ds), (ds, storeD w ks sf), (sf, so), (T, tupO [.str acc t3, .str fm t4, .int len t5])]) (hso : so.IsDictOf (PySem.strKind prog w) [(PySem.Str.ofString "D", .ref fD)]) (lo : (sf == sysModules) = false) (k : ∀ h' tk f df fi rc rn nb no so', Step [] [sf] s.heap h' → h'.get? f = some (instObj 100 df) → h'.get? df = some (fileD w fi acc rc nb) → h'.get? rc = some (listOf #[] rn) → h'.get? nb = some no → no.IsDictOf (PySem.intKind prog w) [] → (nb == sysModules) = false →
      h'.get? sf = some so' → so'.IsDictOf (PySem.strKind prog w) [(PySem.Str.ofString "D", .ref fD), (PySem.Str.ofString "S", .ref f)] → fi.nm = PySem.Str.ofString "S" → fi.fm = fm → fi.len = len →
      s.heap.get? f = none → s.heap.get? df = none → s.heap.get? rc = none → s.heap.get? nb = none → Dist [(f, instObj 100 df), (df, fileD w fi acc rc nb), (rc, listOf #[] rn), (nb, no)] → R (.ok (.ret (.ref f))) { s with heap := h', toks := tk }), codeAny (model prog w) A (.call (.ref 188) ⟨[.ref st, .str (PySem.Str.ofString "S") t1, .str (PySem.Str.ofString "UNKNOWN") t2, .ref T], []⟩) R s) := by
  refine ⟨?Rq, fun kHq A prog w s base outer mean mg mb R st ds sf T fD so ks t1 t2 t3 t4 t5 fm acc len S B Rm H D hso lo k => ?pfq⟩
  case pfq =>
    have hdp := Rm.dep
    have hun := Rm.uni
    obtain ⟨ha, dp, fr, gd, un⟩ := A
    obtain rfl : ha = none := Rm.han
    obtain rfl : fr = some outer := B.stack
    refine' enter [(st, instObj 121 ds), (ds, storeD w ks sf), (sf, so), (T, tupO [.str acc t3, .str fm t4, .int len t5])] S B Rm.d H ?ho ?hcd ?hbind ?hloc ?h ?hco ?hgen ?hk ?hcell
    walk_at "my_enter"
    intro g L' h₁ F N B' X T hold hg hL
    have T0 : KtsTurn (fs outer) g g := KtsTurn.refl
    obtain ⟨D0, D1, D2, D3, _⟩ := D
    revert D3; revert D2; revert D1; revert D0; revert T0; revert hL; revert hg; revert hold; revert T; revert X; revert B'; revert N; revert F; revert hun; revert hdp; revert k; revert lo; revert hso; revert H; revert Rm; revert B; revert S
    exact kHq prog w s base outer mean mg mb R st ds sf T fD so ks t1 t2 t3 t4 t5 fm acc len dp gd un g L' h₁
noncomputable def foundB_q (x : (((((Program × World) × (Shared × Heap)) × ((List Env × (ExcName → Option Value)) × ((Str → Option Value) × (Str → Option Value)))) × ((((Result → Shared → Prop) × Addr) × (Addr × Addr)) × ((Addr × Addr) × Obj))) × ((((Tok × Tok) × (Tok × Tok)) × ((Tok × Tok) × (PySem.Str × PySem.Str))) × (((Int × Nat) × (Option (List Code) × Nat)) × ((Heap × Addr) × Heap))))) : Prop := foundB_s.1 x.1.1.1.1.1 x.1.1.1.1.2 x.1.1.1.2.1 x.1.1.1.2.2 x.1.1.2.1.1 x.1.1.2.1.2 x.1.1.2.2.1 x.1.1.2.2.2 x.1.2.1.1.1 x.1.2.1.1.2 x.1.2.1.2.1 x.1.2.1.2.2 x.1.2.2.1.1 x.1.2.2.1.2 x.1.2.2.2 x.2.1.1.1.1 x.2.1.1.1.2 x.2.1.1.2.1 x.2.1.1.2.2 x.2.1.2.1.1 x.2.1.2.1.2 x.2.1.2.2.1 x.2.1.2.2.2 x.2.2.1.1.1 x.2.2.1.1.2 x.2.2.1.2.1 x.2.2.1.2.2 x.2.2.2.1.1 x.2.2.2.1.2 x.2.2.2.2
noncomputable def foundB_c := @Classical.epsilon _ ⟨(((((PySem.Challenge.pw_sa0211_01, aWorld 1), ({}, {})), (([], fun _ => none), (fun _ => none, fun _ => none))), (((fun _ _ => True, 0), (0, 0)), ((0, 0), instObj 0 0))), ((((0, 0), (0, 0)), ((0, 0), (Str.ofString "", Str.ofString ""))), (((0, 0), (none, 0)), (({}, 0), {}))))⟩ fun x => ¬ foundB_q x
theorem foundB_k : foundB_q foundB_c := by
  refine (?fq : ∀ (prog : Program) (w : World) (s : Shared) (base : Heap) (outer : List Env) (mean : ExcName → Option Value) (mg : Str → Option Value) (mb : Str → Option Value) (R : Result → Shared → Prop) (st : Addr) (ds : Addr) (sf : Addr) (T : Addr) (fD : Addr) (so : Obj) (ks : Tok) (t1 : Tok) (t2 : Tok) (t3 : Tok) (t4 : Tok) (t5 : Tok) (fm : PySem.Str) (acc : PySem.Str) (len : Int) (dp : Nat) (gd : Option (List Code)) (un : Nat) (g : Heap) (L' : Addr) (h₁ : Heap), foundB_s.1 prog w s base outer mean mg mb R st ds sf T fD so ks t1 t2 t3 t4 t5 fm acc len dp gd un g L' h₁) _ _ _ _ _ _ _ _ _ _ _ _ _ _ _ _ _ _ _ _ _ _ _ _ _ _ _ _ _ _ 
  intro prog w s base outer mean mg mb R st ds sf T fD so ks t1 t2 t3 t4 t5 fm acc len dp gd un g L' h₁ S B Rm H hso lo k hdp hun F N B' X T hold hg hL T0 D0 D1 D2 D3
  dsimp only
  try k_fold
  (try dsimp only at hdp hun)
  have hu3 : un + 3 + 64 < cLine := by omega
  (try dsimp only [fileD] at N)
  k_steps
  unfold Halt
  refine' file_K ?yS ?yB ?yF ?yN ?yR ?y_
  case yS => assumption
  case yB => assumption
  case yF => k_asm
  case yN => k_asm
  case yR => exact Room.less (by assumption) (by decide)
  intro h1 tk1 f df fi rc rn nb no F1 N1 hno lo1 e1 e2 e3 n1 n2 n3 n4 m1 m2 m3 m4 m5 m6
  k_steps
  (try show R (.ok (.ret _)) _)
  (rename Fr _ _ _ _ => F9)
  (rename News _ _ _ _ => N9)
  refine k _ _ f df fi rc rn nb no _ (step_cut (end0 hold F9) H (by walk_at "my_ro")) (N9.get (by k_mem)) (N9.get (by k_mem)) (N9.get (by k_mem)) (N9.get (by k_mem)) hno lo1 (N9.get (by k_mem)) (by assumption) e1 e2 e3 ?_ ?_ ?_ ?_ ?_
  iterate 4 (refine fresh_in hold N9 (by k_mem) ?_; walk_at "my_bsne")
  walk_at "my_dist"
theorem foundB  (S : St w mean mg mb base) (B : Below A base outer s.heap) (Rm : Room A 7) (H : Has base outer s.heap [(st, instObj 121 ds), (ds, storeD w ks sf), (sf, so), (T, tupO [.str acc t3, .str fm t4, .int len t5])]) (D : Dist [(st, instObj 121 ds), (ds, storeD w ks sf), (sf, so), (T, tupO [.str acc t3, .str fm t4, .int len t5])]) (hso : so.IsDictOf (PySem.strKind prog w) [(PySem.Str.ofString "D", .ref fD)]) (lo : (sf == sysModules) = false)
    (k : ∀ h' tk f df fi rc rn nb no so', Step [] [sf] s.heap h' → h'.get? f = some (instObj 100 df) → h'.get? df = some (fileD w fi acc rc nb) → h'.get? rc = some (listOf #[] rn) → h'.get? nb = some no → no.IsDictOf (PySem.intKind prog w) [] → (nb == sysModules) = false →
      h'.get? sf = some so' → so'.IsDictOf (PySem.strKind prog w) [(PySem.Str.ofString "D", .ref fD), (PySem.Str.ofString "S", .ref f)] → fi.nm = PySem.Str.ofString "S" → fi.fm = fm → fi.len = len →
      s.heap.get? f = none → s.heap.get? df = none → s.heap.get? rc = none → s.heap.get? nb = none → Dist [(f, instObj 100 df), (df, fileD w fi acc rc nb), (rc, listOf #[] rn), (nb, no)] → R (.ok (.ret (.ref f))) { s with heap := h', toks := tk }) :
    codeAny (model prog w) A (.call (.ref 188) ⟨[.ref st, .str (PySem.Str.ofString "S") t1, .str (PySem.Str.ofString "UNKNOWN") t2, .ref T], []⟩) R s :=
  foundB_s.2 (fun prog w s base outer mean mg mb R st ds sf T fD so ks t1 t2 t3 t4 t5 fm acc len dp gd un g L' h₁ => hk_ax (P := foundB_q) _ foundB_k (((((prog, w), (s, base)), ((outer, mean), (mg, mb))), (((R, st), (ds, sf)), ((T, fD), so))), ((((ks, t1), (t2, t3)), ((t4, t5), (fm, acc))), (((len, dp), (gd, un)), ((g, L'), h₁))))) A prog w s base outer mean mg mb R st ds sf T fD so ks t1 t2 t3 t4 t5 fm acc len S B Rm H D hso lo k
theorem foundC (S : St w mean mg mb base) (B : Below A base outer s.heap) (Rm : Room A 7) (H : Has base outer s.heap [(st, instObj 121 ds), (ds, storeD w ks sf), (sf, so), (fS, instObj 100 df), (df, fileD w ⟨a1, a2, a3, a4, a5, a6, a7, a8, a9, a10, PySem.Str.ofString "S", fm, len⟩ acc rc nb), (T, tupO [.str acc t3, .str fm t4, .int len t5])]) (D : Dist [(st, instObj 121 ds), (ds, storeD w ks sf), (sf, so), (fS, instObj 100 df), (df, fileD w ⟨a1, a2, a3, a4, a5, a6, a7, a8, a9, a10, PySem.Str.ofString "S", fm, len⟩ acc rc nb), (T, tupO [.str acc t3, .str fm t4, .int len t5])]) (hso : so.IsDictOf (PySem.strKind prog w) [(PySem.Str.ofString "D", .ref fD), (PySem.Str.ofString "S", .ref fS)]) (lo : (sf == sysModules) = false) (hfm : fm = PySem.Str.ofString "FORMATTED" ∨ fm = PySem.Str.ofString "UNFORMATTED") (hacc : shaped (.str acc) = true)
    (k : ∀ h' tk, Step [] [] s.heap h' → R (.ok (.ret (.ref fS))) { s with heap := h', toks := tk }) :
    codeAny (model prog w) A (.call (.ref 188) ⟨[.ref st, .str (PySem.Str.ofString "S") t1, .str (PySem.Str.ofString "OLD") t2, .ref T], []⟩) R s := by
  have hdp := Rm.dep
  have hun := Rm.uni
  obtain ⟨ha, dp, fr, gd, un⟩ := A
  obtain rfl : ha = none := Rm.han
  obtain rfl : fr = some outer := B.stack
  refine' enter [(st, instObj 121 ds), (ds, storeD w ks sf), (sf, so), (fS, instObj 100 df), (df, fileD w ⟨a1, a2, a3, a4, a5, a6, a7, a8, a9, a10, PySem.Str.ofString "S", fm, len⟩ acc rc nb), (T, tupO [.str acc t3, .str fm t4, .int len t5])] S B Rm.d H ?ho ?hcd ?hbind ?hloc ?h ?hco ?hgen ?hk ?hcell
  walk_at "my_enter"
  intro g L' h₁ F N B' X T hold hg hL
  have T0 : KtsTurn (fs outer) g g := KtsTurn.refl
  obtain ⟨D0, D1, D2, D3, D4, D5, _⟩ := D
  dsimp only
  try k_fold
  (try dsimp only at hdp hun)
  have hu3 : un + 3 + 64 < cLine := by omega
  k_steps
  unfold Halt
  refine' check_K ?yS ?yB ?yF ?yN ?yR ?yh ?yD hfm hacc ?y_
  case yS => assumption
  case yB => assumption
  case yF => k_asm
  case yN => k_asm
  case yR => exact Room.less (by assumption) (by decide)
  case yh => walk_at "my_mems"
  case yD => walk_at "my_dist"
  intro h1 tk1 F1 N1
  k_steps
  (try show R (.ok (.ret _)) _)
  (rename Fr _ _ _ _ => F9)
  exact k _ _ (step_cut (end0 hold F9) H (by walk_at "my_ro"))
noncomputable def foundD_s : (Rq : Program → World → Shared → Heap → List Env → (ExcName → Option Value) → (Str → Option Value) → (Str → Option Value) → (Result → Shared → Prop) → Addr → Addr → Addr → Addr → Addr → Addr → Addr → Addr → Addr → Obj → Tok → Tok → Tok → Tok → Tok → Tok → PySem.Str → PySem.Str → Int → Tok → Tok → Tok → Tok → Tok → Tok → Tok → Tok → Tok → Tok → Nat → Option (List Code) → Nat → Heap → Addr → Heap → Prop) ×' ((∀ (prog : Program) (w : World) (s : Shared) (base : Heap) (outer : List Env) (mean : ExcName → Option Value) (mg : Str → Option Value) (mb : Str → Option Value) (R : Result → Shared → Prop) (st : Addr) (ds : Addr) (sf : Addr) (T : Addr) (df : Addr) (rc : Addr) (nb : Addr) (fD : Addr) (fS : Addr) (so : Obj) (ks : Tok) (t1 : Tok) (t2 : Tok) (t3 : Tok) (t4 : Tok) (t5 : Tok) (fm : PySem.Str) (acc : PySem.Str) (len : Int) (a1 : Tok) (a2 : Tok) (a3 : Tok) (a4 : Tok) (a5 : Tok) (a6 : Tok) (a7 : Tok) (a8 : Tok) (a9 : Tok) (a10 : Tok) (dp : Nat) (gd : Option (List Code)) (un : Nat) (g : Heap) (L' : Addr) (h₁ : Heap), Rq prog w s base outer mean mg mb R st ds sf T df rc nb fD fS so ks t1 t2 t3 t4 t5 fm acc len a1 a2 a3 a4 a5 a6 a7 a8 a9 a10 dp gd un g L' h₁) → ∀ (A : Around) (prog : Program) (w : World) (s : Shared) (base : Heap) (outer : List Env) (mean : ExcName → Option Value) (mg : Str → Option Value) (mb : Str → Option Value) (R : Result → Shared → Prop) (st : Addr) (ds : Addr) (sf : Addr) (T : Addr) (df : Addr) (rc : Addr) (nb : Addr) (fD : Addr) (fS : Addr) (so : Obj) (ks : Tok) (t1 : Tok) (t2 : Tok) (t3 : Tok) (t4 : Tok) (t5 : Tok) (fm : PySem.Str) (acc : PySem.Str) (len : Int) (a1 : Tok) (a2 : Tok) (a3 : Tok) (a4 : Tok) (a5 : Tok) (a6 : Tok) (a7 : Tok) (a8 : Tok) (a9 : Tok) (a10 : Tok) (S : St w mean mg mb base) (B : Below A base outer s.heap) (Rm : Room A 7) (H : Has base outer s.heap [(st, instObj 121 ds), (ds, storeD w ks sf), (sf, so), (fD, instObj 100 df), (df, fileD w ⟨a1, a2, a3, a4, a5, a6, a7, a8, a9, a10, PySem.Str.ofString "D", fm, len⟩ acc rc nb), (T, tupO [.str acc t3, .str fm t4, .int len t5])]) (D : Dist [(st, instObj 121 ds), (ds, storeD w ks sf), (sf, so), (fD, instObj 100 df), (df, fileD w ⟨a1, a2, a3, a4, a5, a6, a7, a8, a9, a10, PySem.Str.ofString "D", fm, len⟩ acc rc nb), (T, tupO [.str acc t3, .str fm t4, .int len t5])]) (hso : so.IsDictOf (PySem.strKind prog w) [(PySem.Str.ofString "D", .ref fD), (PySem.Str.ofString "S", .ref fS)]) (lo : (sf == sysModules) = false) (hfm : fm = PySem.Str.ofString "FORMATTED" ∨ fm = PySem.Str.ofString "UNFORMATTED") (hacc : shaped (.str acc) = true) (k : ∀ h' tk, Step [] [] s.heap h' → R (.ok (.ret (.ref fD))) { s with heap := h', toks := tk }), codeAny (model prog w) A (.call (.ref 188) ⟨[.ref st, .str (PySem.Str.ofString "D") t1, .str (PySem.Str.ofString "OLD") t2, .ref T], []⟩) R s) := by
  refine ⟨?Rq, fun kHq A prog w s base outer mean mg mb R st ds sf T df rc nb fD fS so ks t1 t2 t3 t4 t5 fm acc len a1 a2 a3 a4 a5 a6 a7 a8 a9 a10 S B Rm H D hso lo hfm hacc k => ?pfq⟩
  case pfq =>
    have hdp := Rm.dep
    have hun := Rm.uni
    obtain ⟨ha, dp, fr, gd, un⟩ := A
    obtain rfl : ha = none := Rm.han
    obtain rfl : fr = some outer := B.stack
    refine' enter [(st, instObj 121 ds), (ds, storeD w ks sf), (sf, so), (fD, instObj 100 df), (df, fileD w ⟨a1, a2, a3, a4, a5, a6, a7, a8, a9, a10, PySem.Str.ofString "D", fm, len⟩ acc rc nb), (T, tupO [.str acc t3, .str fm t4, .int len t5])] S B Rm.d H ?ho ?hcd ?hbind ?hloc ?h ?hco ?hgen ?hk ?hcell
    walk_at "my_enter"
    intro g L' h₁ F N B' X T hold hg hL
    have T0 : KtsTurn (fs outer) g g := KtsTurn.refl
    obtain ⟨D0, D1, D2, D3, D4, D5, _⟩ := D
    revert D5; revert D4; revert D3; revert D2; revert D1; revert D0; revert T0; revert hL; revert hg; revert hold; revert T; revert X; revert B'; revert N; revert F; revert hun; revert hdp; revert k; revert hacc; revert hfm; revert lo; revert hso; revert H; revert Rm; revert B; revert S
    exact kHq prog w s base outer mean mg mb R st ds sf T df rc nb fD fS so ks t1 t2 t3 t4 t5 fm acc len a1 a2 a3 a4 a5 a6 a7 a8 a9 a10 dp gd un g L' h₁
noncomputable def foundD_q (x : ((((((Program × World) × Shared) × ((Heap × List Env) × (ExcName → Option Value))) × ((((Str → Option Value) × (Str → Option Value)) × (Result → Shared → Prop)) × (Addr × Addr))) × ((((Addr × Addr) × Addr) × ((Addr × Addr) × Addr)) × (((Addr × Obj) × Tok) × (Tok × Tok)))) × (((((Tok × Tok) × Tok) × ((PySem.Str × PySem.Str) × Int)) × (((Tok × Tok) × Tok) × (Tok × Tok))) × ((((Tok × Tok) × Tok) × ((Tok × Tok) × Nat)) × (((Option (List Code) × Nat) × Heap) × (Addr × Heap)))))) : Prop := foundD_s.1 x.1.1.1.1.1.1 x.1.1.1.1.1.2 x.1.1.1.1.2 x.1.1.1.2.1.1 x.1.1.1.2.1.2 x.1.1.1.2.2 x.1.1.2.1.1.1 x.1.1.2.1.1.2 x.1.1.2.1.2 x.1.1.2.2.1 x.1.1.2.2.2 x.1.2.1.1.1.1 x.1.2.1.1.1.2 x.1.2.1.1.2 x.1.2.1.2.1.1 x.1.2.1.2.1.2 x.1.2.1.2.2 x.1.2.2.1.1.1 x.1.2.2.1.1.2 x.1.2.2.1.2 x.1.2.2.2.1 x.1.2.2.2.2 x.2.1.1.1.1.1 x.2.1.1.1.1.2 x.2.1.1.1.2 x.2.1.1.2.1.1 x.2.1.1.2.1.2 x.2.1.1.2.2 x.2.1.2.1.1.1 x.2.1.2.1.1.2 x.2.1.2.1.2 x.2.1.2.2.1 x.2.1.2.2.2 x.2.2.1.1.1.1 x.2.2.1.1.1.2 x.2.2.1.1.2 x.2.2.1.2.1.1 x.2.2.1.2.1.2 x.2.2.1.2.2 x.2.2.2.1.1.1 x.2.2.2.1.1.2 x.2.2.2.1.2 x.2.2.2.2.1 x.2.2.2.2.2
noncomputable def foundD_c := @Classical.epsilon _ ⟨((((((PySem.Challenge.pw_sa0211_01, aWorld 1), {}), (({}, []), fun _ => none)), (((fun _ => none, fun _ => none), fun _ _ => True), (0, 0))), ((((0, 0), 0), ((0, 0), 0)), (((0, instObj 0 0), 0), (0, 0)))), (((((0, 0), 0), ((Str.ofString "", Str.ofString ""), 0)), (((0, 0), 0), (0, 0))), ((((0, 0), 0), ((0, 0), 0)), (((none, 0), {}), (0, {})))))⟩ fun x => ¬ foundD_q x
theorem foundD_k : foundD_q foundD_c := by
  refine (?fq : ∀ (prog : Program) (w : World) (s : Shared) (base : Heap) (outer : List Env) (mean : ExcName → Option Value) (mg : Str → Option Value) (mb : Str → Option Value) (R : Result → Shared → Prop) (st : Addr) (ds : Addr) (sf : Addr) (T : Addr) (df : Addr) (rc : Addr) (nb : Addr) (fD : Addr) (fS : Addr) (so : Obj) (ks : Tok) (t1 : Tok) (t2 : Tok) (t3 : Tok) (t4 : Tok) (t5 : Tok) (fm : PySem.Str) (acc : PySem.Str) (len : Int) (a1 : Tok) (a2 : Tok) (a3 : Tok) (a4 : Tok) (a5 : Tok) (a6 : Tok) (a7 : Tok) (a8 : Tok) (a9 : Tok) (a10 : Tok) (dp : Nat) (gd : Option (List Code)) (un : Nat) (g : Heap) (L' : Addr) (h₁ : Heap), foundD_s.1 prog w s base outer mean mg mb R st ds sf T df rc nb fD fS so ks t1 t2 t3 t4 t5 fm acc len a1 a2 a3 a4 a5 a6 a7 a8 a9 a10 dp gd un g L' h₁) _ _ _ _ _ _ _ _ _ _ _ _ _ _ _ _ _ _ _ _ _ _ _ _ _ _ _ _ _ _ _ _ _ _ _ _ _ _ _ _ _ _ _ _ 
  intro prog w s base outer mean mg mb R st ds sf T df rc nb fD fS so ks t1 t2 t3 t4 t5 fm acc len a1 a2 a3 a4 a5 a6 a7 a8 a9 a10 dp gd un g L' h₁ S B Rm H hso lo hfm hacc k hdp hun F N B' X T hold hg hL T0 D0 D1 D2 D3 D4 D5
  dsimp only
  try k_fold
  (try dsimp only at hdp hun)
  have hu3 : un + 3 + 64 < cLine := by omega
  k_steps
  unfold Halt
  refine' check_K ?yS ?yB ?yF ?yN ?yR ?yh ?yD hfm hacc ?y_
  case yS => assumption
  case yB => assumption
  case yF => k_asm
  case yN => k_asm
  case yR => exact Room.less (by assumption) (by decide)
  case yh => walk_at "my_mems"
  case yD => walk_at "my_dist"
  intro h1 tk1 F1 N1
  k_steps
  (try show R (.ok (.ret _)) _)
  (rename Fr _ _ _ _ => F9)
  exact k _ _ (step_cut (end0 hold F9) H (by walk_at "my_ro"))
theorem foundD  (S : St w mean mg mb base) (B : Below A base outer s.heap) (Rm : Room A 7) (H : Has base outer s.heap [(st, instObj 121 ds), (ds, storeD w ks sf), (sf, so), (fD, instObj 100 df), (df, fileD w ⟨a1, a2, a3, a4, a5, a6, a7, a8, a9, a10, PySem.Str.ofString "D", fm, len⟩ acc rc nb), (T, tupO [.str acc t3, .str fm t4, .int len t5])]) (D : Dist [(st, instObj 121 ds), (ds, storeD w ks sf), (sf, so), (fD, instObj 100 df), (df, fileD w ⟨a1, a2, a3, a4, a5, a6, a7, a8, a9, a10, PySem.Str.ofString "D", fm, len⟩ acc rc nb), (T, tupO [.str acc t3, .str fm t4, .int len t5])]) (hso : so.IsDictOf (PySem.strKind prog w) [(PySem.Str.ofString "D", .ref fD), (PySem.Str.ofString "S", .ref fS)]) (lo : (sf == sysModules) = false) (hfm : fm = PySem.Str.ofString "FORMATTED" ∨ fm = PySem.Str.ofString "UNFORMATTED") (hacc : shaped (.str acc) = true)
    (k : ∀ h' tk, Step [] [] s.heap h' → R (.ok (.ret (.ref fD))) { s with heap := h', toks := tk }) :
    codeAny (model prog w) A (.call (.ref 188) ⟨[.ref st, .str (PySem.Str.ofString "D") t1, .str (PySem.Str.ofString "OLD") t2, .ref T], []⟩) R s :=
  foundD_s.2 (fun prog w s base outer mean mg mb R st ds sf T df rc nb fD fS so ks t1 t2 t3 t4 t5 fm acc len a1 a2 a3 a4 a5 a6 a7 a8 a9 a10 dp gd un g L' h₁ => hk_ax (P := foundD_q) _ foundD_k ((((((prog, w), s), ((base, outer), mean)), (((mg, mb), R), (st, ds))), ((((sf, T), df), ((rc, nb), fD)), (((fS, so), ks), (t1, t2)))), (((((t3, t4), t5), ((fm, acc), len)), (((a1, a2), a3), (a4, a5))), ((((a6, a7), a8), ((a9, a10), dp)), (((gd, un), g), (L', h₁)))))) A prog w s base outer mean mg mb R st ds sf T df rc nb fD fS so ks t1 t2 t3 t4 t5 fm acc len a1 a2 a3 a4 a5 a6 a7 a8 a9 a10 S B Rm H D hso lo hfm hacc k
theorem allNe_app' {x : Addr} : ∀ {l1 l2 : List (Addr × Obj)}, AllNe x l1 → AllNe x l2 → AllNe x (l1 ++ l2)
  | [], _, _, h => h
  | _ :: _, _, ⟨a, r⟩, h => ⟨a, allNe_app' r h⟩
end
end
section
open PySem PySem.W PyProof.Rows PySem.Spec PySem.Calls PyProof.Rows.LCg PySem.SeqAt
theorem line_M43A_1 : True := by
  k_with_none
  w_top off
  k_with "my:k_mem" => (first | exact m0_ | exact m1_ | exact m2_ | exact m3_ | exact m4_ | exact m5_ | exact m6_ | exact m7_ | (refine m8s_ ?_; k_mem))
  k_with "my:k_ne" => (((try dsimp only); first
  | exact AllNe.mem (by assumption) (_, _) (by k_mem)
  | exact Ne.symm (AllNe.mem (by assumption) (_, _) (by k_mem))
  | assumption
  | exact Ne.symm (by assumption)
  | exact Nat.ne_of_lt (lt_at (by assumption) (by k_mem))
  | exact Nat.ne_of_gt (lt_at (by assumption) (by k_mem))
  | (refine neN ?_; omega)))
  k_with "my_enter" => ((
  (case ho => k_is)
  (case hcd => k_is)
  (case hbind => exact BindsTo.of_eq rfl)
  (case hloc => exact locs rfl)
  (case hco => exact rfl)
  (case hgen => exact rfl)
  (case hk => exact rfl)
  (case hcell => decide)))
  k_with "my_dist" => (((simp only [Dist, AllNe, and_true]); (repeat' (refine And.intro ?_ ?_)); all_goals k_ne))
  k_with "my_sub" => (first | exact List.forall_mem_nil _ | (refine List.forall_mem_cons.mpr ⟨?aZ, ?bZ⟩; (case aZ => k_mem); (case bZ => walk_at "my_sub")) | exact fun _ hq => by ((repeat refine List.Mem.tail _ ?_); exact hq))
  k_with "my_mems" => (first | exact List.forall_mem_nil _ | (refine List.forall_mem_cons.mpr ⟨?aZ, ?bZ⟩; (case aZ => k_mem); (case bZ => walk_at "my_mems")))
  k_with "my_ro" => (first | exact List.forall_mem_nil _ | (refine List.forall_mem_cons.mpr ⟨?aZ, ?bZ⟩; (case aZ => first | exact fun _ => News.get (by k_asm) (by k_mem) | exact fun hn => absurd (by simp) hn); (case bZ => walk_at "my_ro")) | exact fun _ hq _ => News.get (by k_asm) (by ((repeat refine List.Mem.tail _ ?_); exact hq)))
  k_with "my_bsne" => (first | exact List.forall_mem_nil _ | (refine List.forall_mem_cons.mpr ⟨?aZ, ?bZ⟩; (case aZ => k_ne); (case bZ => walk_at "my_bsne")) | exact OffR.all (by assumption))
  k_with "call ref" => ((k_here; (first
  | (with_reducible show wpAny _ _ (PySem.call (Value.ref 153) _) _ _ _)
  | (with_reducible show wpAny _ _ (PySem.call (Value.ref 160) _) _ _ _)
  | (with_reducible show wpAny _ _ (PySem.call (Value.ref 167) _) _ _ _)
  | (with_reducible show wpAny _ _ (PySem.call (Value.ref 181) _) _ _ _)
  | (with_reducible show wpAny _ _ (PySem.call (Value.ref 188) _) _ _ _)
  | (with_reducible show wpAny _ _ (PySem.call (Value.ref 142) _) _ _ _)); refine halt ?_))
  k_with "my:k_room" => (((try simp only [depth_mark, depth_under_make, depth_under_kw, depth_in1, depth_deeper, depth_caller]); (try dsimp only); omega))
  trivial
section
variable {prog : Program} {w : World} {A : Around} {s : Shared} {base : Heap} {outer : List Env} {mean : ExcName → Option Value} {mg mb : Str → Option Value}
  {R : Result → Shared → Prop} {st ds sf uns wd : Addr} {so uo wo : Obj} {ks t1 t2 t3 t4 t5 t6 : Tok} {fm : PySem.Str} {len : Int}
  {uX duX fX dfX rcX nbX fD dfD rcD nbD fS dfS rcS nbS : Addr} {uiX : UI} {pX : Value} {a1 a2 a3 a4 a5 a6 a7 a8 a9 a10 b1 b2 b3 b4 b5 b6 b7 b8 b9 b10 : Tok} {lenX : Int} {fmX : PySem.Str}
noncomputable def openA_s : (Rq : Program → World → Shared → Heap → List Env → (ExcName → Option Value) → (Str → Option Value) → (Str → Option Value) → (Result → Shared → Prop) → Addr → Addr → Addr → Addr → Addr → Obj → Obj → Obj → Tok → Tok → Tok → Tok → Tok → Tok → PySem.Str → Int → Nat → Option (List Code) → Nat → Heap → Addr → Heap → Prop) ×' ((∀ (prog : Program) (w : World) (s : Shared) (base : Heap) (outer : List Env) (mean : ExcName → Option Value) (mg : Str → Option Value) (mb : Str → Option Value) (R : Result → Shared → Prop) (st : Addr) (ds : Addr) (sf : Addr) (uns : Addr) (wd : Addr) (so : Obj) (uo : Obj) (wo : Obj) (ks : Tok) (t1 : Tok) (t2 : Tok) (t3 : Tok) (t4 : Tok) (t5 : Tok) (fm : PySem.Str) (len : Int) (dp : Nat) (gd : Option (List Code)) (un : Nat) (g : Heap) (L' : Addr) (h₁ : Heap), Rq prog w s base outer mean mg mb R st ds sf uns wd so uo wo ks t1 t2 t3 t4 t5 fm len dp gd un g L' h₁) → ∀ (A : Around) (prog : Program) (w : World) (s : Shared) (base : Heap) (outer : List Env) (mean : ExcName → Option Value) (mg : Str → Option Value) (mb : Str → Option Value) (R : Result → Shared → Prop) (st : Addr) (ds : Addr) (sf : Addr) (uns : Addr) (wd : Addr) (so : Obj) (uo : Obj) (wo : Obj) (ks : Tok) (t1 : Tok) (t2 : Tok) (t3 : Tok) (t4 : Tok) (t5 : Tok) (fm : PySem.Str) (len : Int) (S : St w mean mg mb base) (B : Below A base outer s.heap) (Rm : Room A 9) (H : Has base outer s.heap [(st, instObj 121 ds), (ds, storeD w ks sf), (sf, so), (uns, uo), (wd, wo)]) (D : Dist [(st, instObj 121 ds), (ds, storeD w ks sf), (sf, so), (uns, uo), (wd, wo)]) (hso : so.IsDictOf (PySem.strKind prog w) []) (huo : uo.IsDictOf (PySem.intKind prog w) []) (hwo : wo.IsDictOf (PySem.strKind prog w) [(PySem.Str.ofString "FILE", .str (PySem.Str.ofString "D") t1), (PySem.Str.ofString "ACCESS", .str (PySem.Str.ofString "DIRECT") t2), (PySem.Str.ofString "FORM", .str fm t3), (PySem.Str.ofString "RECL", .int len t4)]) (lo1 : (sf == sysModules) = false) (lo2 : (uns == sysModules) = false) (lo3 : (wd == sysModules) = false) (hfm : fm = PySem.Str.ofString "FORMATTED" ∨ fm = PySem.Str.ofString "UNFORMATTED") (hl1 : 2 ≤ len) (hl2 : len ≤ 4) (k : ∀ h' tk u du ui f df fi rc rn nb no so' uo' tp, Step [] [sf, uns] s.heap h' → h'.get? u = some (instObj 142 du) → h'.get? du = some (unitD w ui f (.int 0 tp)) → h'.get? f = some (instObj 100 df) → h'.get? df = some (fileD w fi "DIRECT" rc nb) → h'.get? rc = some (listOf #[] rn) → h'.get? nb = some no → no.IsDictOf (PySem.intKind prog w) [] → (nb == sysModules) = false →
      h'.get? sf = some so' → h'.get? uns = some uo' → so'.IsDictOf (PySem.strKind prog w) [(PySem.Str.ofString "D", .ref f)] → uo'.IsDictOf (PySem.intKind prog w) [(3, .ref u)] → fi.nm = PySem.Str.ofString "D" → fi.fm = fm → fi.len = len →
      s.heap.get? u = none → s.heap.get? du = none → s.heap.get? f = none → s.heap.get? df = none → s.heap.get? rc = none → s.heap.get? nb = none → Dist [(u, instObj 142 du), (du, unitD w ui f (.int 0 tp)), (f, instObj 100 df), (df, fileD w fi "DIRECT" rc nb), (rc, listOf #[] rn), (nb, no)] →
      R (.ok (.ret (.ref u))) { s with heap := h', toks := tk }), codeAny (model prog w) A (.call (.ref 209) ⟨[.ref st, .ref uns, .int 3 t5, .ref wd], []⟩) R s) := by
  refine ⟨?Rq, fun kHq A prog w s base outer mean mg mb R st ds sf uns wd so uo wo ks t1 t2 t3 t4 t5 fm len S B Rm H D hso huo hwo lo1 lo2 lo3 hfm hl1 hl2 k => ?pfq⟩
  case pfq =>
    have hdp := Rm.dep
    have hun := Rm.uni
    obtain ⟨ha, dp, fr, gd, un⟩ := A
    obtain rfl : ha = none := Rm.han
    obtain rfl : fr = some outer := B.stack
    refine' enter [(st, instObj 121 ds), (ds, storeD w ks sf), (sf, so), (uns, uo), (wd, wo)] S B Rm.d H ?ho ?hcd ?hbind ?hloc ?h ?hco ?hgen ?hk ?hcell
    walk_at "my_enter"
    intro g L' h₁ F N B' X T hold hg hL
    have T0 : KtsTurn (fs outer) g g := KtsTurn.refl
    obtain ⟨D0, D1, D2, D3, D4, _⟩ := D
    revert D4; revert D3; revert D2; revert D1; revert D0; revert T0; revert hL; revert hg; revert hold; revert T; revert X; revert B'; revert N; revert F; revert hun; revert hdp; revert k; revert hl2; revert hl1; revert hfm; revert lo3; revert lo2; revert lo1; revert hwo; revert huo; revert hso; revert H; revert Rm; revert B; revert S
    exact kHq prog w s base outer mean mg mb R st ds sf uns wd so uo wo ks t1 t2 t3 t4 t5 fm len dp gd un g L' h₁
noncomputable def openA_q (x : (((((Program × World) × (Shared × Heap)) × ((List Env × (ExcName → Option Value)) × ((Str → Option Value) × (Str → Option Value)))) × ((((Result → Shared → Prop) × Addr) × (Addr × Addr)) × ((Addr × Addr) × (Obj × Obj)))) × ((((Obj × Tok) × (Tok × Tok)) × ((Tok × Tok) × (Tok × PySem.Str))) × (((Int × Nat) × (Option (List Code) × Nat)) × ((Heap × Addr) × Heap))))) : Prop := openA_s.1 x.1.1.1.1.1 x.1.1.1.1.2 x.1.1.1.2.1 x.1.1.1.2.2 x.1.1.2.1.1 x.1.1.2.1.2 x.1.1.2.2.1 x.1.1.2.2.2 x.1.2.1.1.1 x.1.2.1.1.2 x.1.2.1.2.1 x.1.2.1.2.2 x.1.2.2.1.1 x.1.2.2.1.2 x.1.2.2.2.1 x.1.2.2.2.2 x.2.1.1.1.1 x.2.1.1.1.2 x.2.1.1.2.1 x.2.1.1.2.2 x.2.1.2.1.1 x.2.1.2.1.2 x.2.1.2.2.1 x.2.1.2.2.2 x.2.2.1.1.1 x.2.2.1.1.2 x.2.2.1.2.1 x.2.2.1.2.2 x.2.2.2.1.1 x.2.2.2.1.2 x.2.2.2.2
noncomputable def openA_c := @Classical.epsilon _ ⟨(((((PySem.Challenge.pw_sa0211_01, aWorld 1), ({}, {})), (([], fun _ => none), (fun _ => none, fun _ => none))), (((fun _ _ => True, 0), (0, 0)), ((0, 0), (instObj 0 0, instObj 0 0)))), ((((instObj 0 0, 0), (0, 0)), ((0, 0), (0, Str.ofString ""))), (((0, 0), (none, 0)), (({}, 0), {}))))⟩ fun x => ¬ openA_q x
theorem openA_k : openA_q openA_c := by
  refine (?fq : ∀ (prog : Program) (w : World) (s : Shared) (base : Heap) (outer : List Env) (mean : ExcName → Option Value) (mg : Str → Option Value) (mb : Str → Option Value) (R : Result → Shared → Prop) (st : Addr) (ds : Addr) (sf : Addr) (uns : Addr) (wd : Addr) (so : Obj) (uo : Obj) (wo : Obj) (ks : Tok) (t1 : Tok) (t2 : Tok) (t3 : Tok) (t4 : Tok) (t5 : Tok) (fm : PySem.Str) (len : Int) (dp : Nat) (gd : Option (List Code)) (un : Nat) (g : Heap) (L' : Addr) (h₁ : Heap), openA_s.1 prog w s base outer mean mg mb R st ds sf uns wd so uo wo ks t1 t2 t3 t4 t5 fm len dp gd un g L' h₁) _ _ _ _ _ _ _ _ _ _ _ _ _ _ _ _ _ _ _ _ _ _ _ _ _ _ _ _ _ _ _ 
  intro prog w s base outer mean mg mb R st ds sf uns wd so uo wo ks t1 t2 t3 t4 t5 fm len dp gd un g L' h₁ S B Rm H hso huo hwo lo1 lo2 lo3 hfm hl1 hl2 k hdp hun F N B' X T hold hg hL T0 D0 D1 D2 D3 D4
  dsimp only
  try k_fold
  (try dsimp only at hdp hun)
  k_steps
  unfold Halt
  refine' word_K ?y1S ?y1B ?y1F ?y1N ?y1R ?y1M ?y1D ?y1lo ?y1v ?y1z ?y1s ?y1l ?y1i ?y1b ?y1_
  case y1S => assumption
  case y1B => assumption
  case y1F => k_asm
  case y1N => k_asm
  case y1R => exact Room.less (by assumption) (by decide)
  case y1M => k_mem
  case y1D => assumption
  case y1lo => assumption
  case y1v => exact rfl
  case y1z => decide +kernel
  case y1s => decide +kernel
  case y1l => k_is
  case y1i => repeat constructor
  case y1b => decide +kernel
  intro h1 tk1 t1 F1 N1
  (try dsimp only at N1)
  k_steps
  unfold Halt
  (rename Fr _ _ _ _ => Fa)
  (rename News _ _ _ _ => Na)
  refine wpAny_call (sortD S (pushX B' Fa rfl rfl) (Rm.deeper (by decide)) (has_ofX rfl B' Na (List.forall_mem_cons.mpr ⟨by k_mem, fun _ h => nomatch h⟩)) hwo lo3 (by rfl) (by rfl) (by rfl) (by rfl) (by rfl) hfm hl1 hl2 fun h2 tk2 T2 ta tf tl x1 x2 x3 => ?_)
  obtain ⟨F2, N2⟩ := use00 Fa Na x1
  have nT := new_ne Na x3
  replace N2 := useNew Fa x3 x2 N2 (new_none Fa x3)
  clear x1 x2 x3 Fa Na
  k_steps
  unfold Halt
  refine' word_K ?y2S ?y2B ?y2F ?y2N ?y2R ?y2M ?y2D ?y2lo ?y2v ?y2z ?y2s ?y2l ?y2i ?y2b ?y2_
  case y2S => assumption
  case y2B => assumption
  case y2F => k_asm
  case y2N => k_asm
  case y2R => exact Room.less (by assumption) (by decide)
  case y2M => k_mem
  case y2D => assumption
  case y2lo => assumption
  case y2v => exact rfl
  case y2z => decide +kernel
  case y2s => decide +kernel
  case y2l => k_is
  case y2i => repeat constructor
  case y2b => decide +kernel
  intro h2 tk2 t2 F2 N2
  (try dsimp only at N2)
  k_steps
  unfold Halt
  (rename Fr _ _ _ _ => Fa)
  (rename News _ _ _ _ => Na)
  refine wpAny_call (nameD S (pushX B' Fa rfl rfl) (Rm.deeper (by decide)) (has_ofX rfl B' Na (List.forall_mem_cons.mpr ⟨by k_mem, fun _ h => nomatch h⟩)) hwo lo3 (by rfl) (by rfl) fun h3 tk3 t3' x1 => ?_)
  obtain ⟨F3, N3⟩ := use00 Fa Na x1
  clear x1 Fa Na
  k_steps
  unfold Halt
  (rename Fr _ _ _ _ => Fa)
  (rename News _ _ _ _ => Na)
  refine wpAny_call (unone0 S (pushX B' Fa rfl rfl) (Rm.deeper (by decide)) (has_ofX rfl B' Na (by walk_at "my_mems")) (by walk_at "my_dist") huo lo2 fun h4 tk4 x1 => ?_)
  obtain ⟨F4, N4⟩ := use00 Fa Na x1
  clear x1 Fa Na
  k_steps
  unfold Halt
  (rename Fr _ _ _ _ => Fa)
  (rename News _ _ _ _ => Na)
  refine wpAny_call (foundA S (pushX B' Fa rfl rfl) (Rm.deeper (by decide)) (has_ofX rfl B' Na (by walk_at "my_mems")) (by walk_at "my_dist") hso lo1 fun h5 tk5 f df fi rc rn nb no so' x0 x1 x2 x3 x4 x5 x6 x7 x8 e1 e2 e3 z1 z2 z3 z4 zD => ?_)
  have z := use0 Fa Na (by k_updF) x0 x7
  obtain ⟨F5, N5⟩ := z
  replace N5 := useNew Fa z1 x1 (useNew Fa z2 x2 (useNew Fa z3 x3 (useNew Fa z4 x4 N5 (new_none Fa z4)) (new_none Fa z3)) (new_none Fa z2)) (new_none Fa z1)
  (try dsimp only at N5)
  have m1 := allNe_app' zD.1 (new_ne Na z1)
  have m2 := allNe_app' zD.2.1 (new_ne Na z2)
  have m3 := allNe_app' zD.2.2.1 (new_ne Na z3)
  have m4 := new_ne Na z4
  clear x0 x1 x2 x3 x4 x7 z1 z2 z3 z4 zD Fa Na
  k_steps
  unfold Halt
  (rename Fr _ _ _ _ => Fa)
  (rename News _ _ _ _ => Na)
  refine' unit_K ?uS ?uB ?uF ?uN ?uR ?u_
  case uS => assumption
  case uB => assumption
  case uF => exact Fa
  case uN => exact Na
  case uR => exact Room.less Rm (by decide)
  intro h6 tk6 u du ui tp F6 N6 v1 v2 v3
  clear Fa Na
  k_steps
  all_goals (try show R (.ok (.ret (.ref _))) _)
  (rename Fr _ _ _ _ => F9)
  (rename News _ _ _ _ => N9)
  refine k _ _ _ _ _ _ _ _ _ _ _ _ _ _ _ (step_cut (end0 hold F9) H (by walk_at "my_ro")) (N9.get (by k_mem)) (N9.get (by k_mem)) (N9.get (by k_mem)) (N9.get (by k_mem)) (N9.get (by k_mem)) (N9.get (by k_mem)) (by assumption) (by assumption) (N9.get (by k_mem)) (N9.get (by k_mem)) (by assumption) (by assumption) (by assumption) (by assumption) (by assumption) ?_ ?_ ?_ ?_ ?_ ?_ ?_
  iterate 6 (refine fresh_in hold N9 (by k_mem) ?_; walk_at "my_bsne")
  walk_at "my_dist"
theorem openA  (S : St w mean mg mb base) (B : Below A base outer s.heap) (Rm : Room A 9) (H : Has base outer s.heap [(st, instObj 121 ds), (ds, storeD w ks sf), (sf, so), (uns, uo), (wd, wo)]) (D : Dist [(st, instObj 121 ds), (ds, storeD w ks sf), (sf, so), (uns, uo), (wd, wo)])
    (hso : so.IsDictOf (PySem.strKind prog w) []) (huo : uo.IsDictOf (PySem.intKind prog w) []) (hwo : wo.IsDictOf (PySem.strKind prog w) [(PySem.Str.ofString "FILE", .str (PySem.Str.ofString "D") t1), (PySem.Str.ofString "ACCESS", .str (PySem.Str.ofString "DIRECT") t2), (PySem.Str.ofString "FORM", .str fm t3), (PySem.Str.ofString "RECL", .int len t4)])
    (lo1 : (sf == sysModules) = false) (lo2 : (uns == sysModules) = false) (lo3 : (wd == sysModules) = false) (hfm : fm = PySem.Str.ofString "FORMATTED" ∨ fm = PySem.Str.ofString "UNFORMATTED") (hl1 : 2 ≤ len) (hl2 : len ≤ 4)
    (k : ∀ h' tk u du ui f df fi rc rn nb no so' uo' tp, Step [] [sf, uns] s.heap h' → h'.get? u = some (instObj 142 du) → h'.get? du = some (unitD w ui f (.int 0 tp)) → h'.get? f = some (instObj 100 df) → h'.get? df = some (fileD w fi "DIRECT" rc nb) → h'.get? rc = some (listOf #[] rn) → h'.get? nb = some no → no.IsDictOf (PySem.intKind prog w) [] → (nb == sysModules) = false →
      h'.get? sf = some so' → h'.get? uns = some uo' → so'.IsDictOf (PySem.strKind prog w) [(PySem.Str.ofString "D", .ref f)] → uo'.IsDictOf (PySem.intKind prog w) [(3, .ref u)] → fi.nm = PySem.Str.ofString "D" → fi.fm = fm → fi.len = len →
      s.heap.get? u = none → s.heap.get? du = none → s.heap.get? f = none → s.heap.get? df = none → s.heap.get? rc = none → s.heap.get? nb = none → Dist [(u, instObj 142 du), (du, unitD w ui f (.int 0 tp)), (f, instObj 100 df), (df, fileD w fi "DIRECT" rc nb), (rc, listOf #[] rn), (nb, no)] →
      R (.ok (.ret (.ref u))) { s with heap := h', toks := tk }) :
    codeAny (model prog w) A (.call (.ref 209) ⟨[.ref st, .ref uns, .int 3 t5, .ref wd], []⟩) R s :=
  openA_s.2 (fun prog w s base outer mean mg mb R st ds sf uns wd so uo wo ks t1 t2 t3 t4 t5 fm len dp gd un g L' h₁ => hk_ax (P := openA_q) _ openA_k (((((prog, w), (s, base)), ((outer, mean), (mg, mb))), (((R, st), (ds, sf)), ((uns, wd), (so, uo)))), ((((wo, ks), (t1, t2)), ((t3, t4), (t5, fm))), (((len, dp), (gd, un)), ((g, L'), h₁))))) A prog w s base outer mean mg mb R st ds sf uns wd so uo wo ks t1 t2 t3 t4 t5 fm len S B Rm H D hso huo hwo lo1 lo2 lo3 hfm hl1 hl2 k
end
end
section
open PySem PySem.W PyProof.Rows PySem.Spec PySem.Calls PyProof.Rows.LCg PySem.SeqAt
theorem line_M43B_1 : True := by
  k_with_none
  w_top off
  k_with "my:k_mem" => (first | exact m0_ | exact m1_ | exact m2_ | exact m3_ | exact m4_ | exact m5_ | exact m6_ | exact m7_ | (refine m8s_ ?_; k_mem))
  k_with "my:k_ne" => (((try dsimp only); first
  | exact AllNe.mem (by assumption) (_, _) (by k_mem)
  | exact Ne.symm (AllNe.mem (by assumption) (_, _) (by k_mem))
  | assumption
  | exact Ne.symm (by assumption)
  | exact Nat.ne_of_lt (lt_at (by assumption) (by k_mem))
  | exact Nat.ne_of_gt (lt_at (by assumption) (by k_mem))
  | (refine neN ?_; omega)))
  k_with "my_enter" => ((
  (case ho => k_is)
  (case hcd => k_is)
  (case hbind => exact BindsTo.of_eq rfl)
  (case hloc => exact locs rfl)
  (case hco => exact rfl)
  (case hgen => exact rfl)
  (case hk => exact rfl)
  (case hcell => decide)))
  k_with "my_dist" => (((simp only [Dist, AllNe, and_true]); (repeat' (refine And.intro ?_ ?_)); all_goals k_ne))
  k_with "my_sub" => (first | exact List.forall_mem_nil _ | (refine List.forall_mem_cons.mpr ⟨?aZ, ?bZ⟩; (case aZ => k_mem); (case bZ => walk_at "my_sub")) | exact fun _ hq => by ((repeat refine List.Mem.tail _ ?_); exact hq))
  k_with "my_mems" => (first | exact List.forall_mem_nil _ | (refine List.forall_mem_cons.mpr ⟨?aZ, ?bZ⟩; (case aZ => k_mem); (case bZ => walk_at "my_mems")))
  k_with "my_ro" => (first | exact List.forall_mem_nil _ | (refine List.forall_mem_cons.mpr ⟨?aZ, ?bZ⟩; (case aZ => first | exact fun _ => News.get (by k_asm) (by k_mem) | exact fun hn => absurd (by simp) hn); (case bZ => walk_at "my_ro")) | exact fun _ hq _ => News.get (by k_asm) (by ((repeat refine List.Mem.tail _ ?_); exact hq)))
  k_with "my_bsne" => (first | exact List.forall_mem_nil _ | (refine List.forall_mem_cons.mpr ⟨?aZ, ?bZ⟩; (case aZ => k_ne); (case bZ => walk_at "my_bsne")) | exact OffR.all (by assumption))
  k_with "call ref" => ((k_here; (first
  | (with_reducible show wpAny _ _ (PySem.call (Value.ref 153) _) _ _ _)
  | (with_reducible show wpAny _ _ (PySem.call (Value.ref 160) _) _ _ _)
  | (with_reducible show wpAny _ _ (PySem.call (Value.ref 167) _) _ _ _)
  | (with_reducible show wpAny _ _ (PySem.call (Value.ref 181) _) _ _ _)
  | (with_reducible show wpAny _ _ (PySem.call (Value.ref 188) _) _ _ _)
  | (with_reducible show wpAny _ _ (PySem.call (Value.ref 142) _) _ _ _)); refine halt ?_))
  k_with "my:k_room" => (((try simp only [depth_mark, depth_under_make, depth_under_kw, depth_in1, depth_deeper, depth_caller]); (try dsimp only); omega))
  trivial
section
variable {prog : Program} {w : World} {A : Around} {s : Shared} {base : Heap} {outer : List Env} {mean : ExcName → Option Value} {mg mb : Str → Option Value}
  {R : Result → Shared → Prop} {st ds sf uns wd : Addr} {so uo wo : Obj} {ks t1 t2 t3 t4 t5 t6 : Tok} {fm : PySem.Str} {len : Int}
  {uX duX fX dfX rcX nbX fD dfD rcD nbD fS dfS rcS nbS : Addr} {uiX : UI} {pX : Value} {a1 a2 a3 a4 a5 a6 a7 a8 a9 a10 b1 b2 b3 b4 b5 b6 b7 b8 b9 b10 : Tok} {lenX : Int} {fmX : PySem.Str}
noncomputable def openB_s : (Rq : Program → World → Shared → Heap → List Env → (ExcName → Option Value) → (Str → Option Value) → (Str → Option Value) → (Result → Shared → Prop) → Addr → Addr → Addr → Addr → Addr → Obj → Obj → Obj → Tok → Tok → Tok → Tok → PySem.Str → Int → Addr → Addr → Addr → Addr → Addr → Addr → UI → Value → Tok → Tok → Tok → Tok → Tok → Tok → Tok → Tok → Tok → Tok → Nat → Option (List Code) → Nat → Heap → Addr → Heap → Prop) ×' ((∀ (prog : Program) (w : World) (s : Shared) (base : Heap) (outer : List Env) (mean : ExcName → Option Value) (mg : Str → Option Value) (mb : Str → Option Value) (R : Result → Shared → Prop) (st : Addr) (ds : Addr) (sf : Addr) (uns : Addr) (wd : Addr) (so : Obj) (uo : Obj) (wo : Obj) (ks : Tok) (t1 : Tok) (t3 : Tok) (t5 : Tok) (fm : PySem.Str) (len : Int) (uX : Addr) (duX : Addr) (fD : Addr) (dfD : Addr) (rcD : Addr) (nbD : Addr) (uiX : UI) (pX : Value) (a1 : Tok) (a2 : Tok) (a3 : Tok) (a4 : Tok) (a5 : Tok) (a6 : Tok) (a7 : Tok) (a8 : Tok) (a9 : Tok) (a10 : Tok) (dp : Nat) (gd : Option (List Code)) (un : Nat) (g : Heap) (L' : Addr) (h₁ : Heap), Rq prog w s base outer mean mg mb R st ds sf uns wd so uo wo ks t1 t3 t5 fm len uX duX fD dfD rcD nbD uiX pX a1 a2 a3 a4 a5 a6 a7 a8 a9 a10 dp gd un g L' h₁) → ∀ (A : Around) (prog : Program) (w : World) (s : Shared) (base : Heap) (outer : List Env) (mean : ExcName → Option Value) (mg : Str → Option Value) (mb : Str → Option Value) (R : Result → Shared → Prop) (st : Addr) (ds : Addr) (sf : Addr) (uns : Addr) (wd : Addr) (so : Obj) (uo : Obj) (wo : Obj) (ks : Tok) (t1 : Tok) (t3 : Tok) (t5 : Tok) (fm : PySem.Str) (len : Int) (uX : Addr) (duX : Addr) (fD : Addr) (dfD : Addr) (rcD : Addr) (nbD : Addr) (uiX : UI) (pX : Value) (a1 : Tok) (a2 : Tok) (a3 : Tok) (a4 : Tok) (a5 : Tok) (a6 : Tok) (a7 : Tok) (a8 : Tok) (a9 : Tok) (a10 : Tok) (S : St w mean mg mb base) (B : Below A base outer s.heap) (Rm : Room A 9) (H : Has base outer s.heap [(st, instObj 121 ds), (ds, storeD w ks sf), (sf, so), (uns, uo), (wd, wo), (uX, instObj 142 duX), (duX, unitD w uiX fD pX), (fD, instObj 100 dfD), (dfD, fileD w ⟨a1, a2, a3, a4, a5, a6, a7, a8, a9, a10, PySem.Str.ofString "D", fm, len⟩ "DIRECT" rcD nbD)]) (D : Dist [(st, instObj 121 ds), (ds, storeD w ks sf), (sf, so), (uns, uo), (wd, wo), (uX, instObj 142 duX), (duX, unitD w uiX fD pX), (fD, instObj 100 dfD), (dfD, fileD w ⟨a1, a2, a3, a4, a5, a6, a7, a8, a9, a10, PySem.Str.ofString "D", fm, len⟩ "DIRECT" rcD nbD)]) (hso : so.IsDictOf (PySem.strKind prog w) [(PySem.Str.ofString "D", .ref fD)]) (huo : uo.IsDictOf (PySem.intKind prog w) [(3, .ref uX)]) (hwo : wo.IsDictOf (PySem.strKind prog w) [(PySem.Str.ofString "FILE", .str (PySem.Str.ofString "S") t1), (PySem.Str.ofString "FORM", .str fm t3)]) (lo1 : (sf == sysModules) = false) (lo2 : (uns == sysModules) = false) (lo3 : (wd == sysModules) = false) (hfm : fm = PySem.Str.ofString "FORMATTED" ∨ fm = PySem.Str.ofString "UNFORMATTED") (hl1 : 2 ≤ len) (hl2 : len ≤ 4) (k : ∀ h' tk u du ui f df fi rc rn nb no so' uo' tp, Step [] [sf, uns] s.heap h' → h'.get? u = some (instObj 142 du) → h'.get? du = some (unitD w ui f (.int 0 tp)) → h'.get? f = some (instObj 100 df) → h'.get? df = some (fileD w fi "SEQUENTIAL" rc nb) → h'.get? rc = some (listOf #[] rn) → h'.get? nb = some no → no.IsDictOf (PySem.intKind prog w) [] → (nb == sysModules) = false →
      h'.get? sf = some so' → h'.get? uns = some uo' → so'.IsDictOf (PySem.strKind prog w) [(PySem.Str.ofString "D", .ref fD), (PySem.Str.ofString "S", .ref f)] → uo'.IsDictOf (PySem.intKind prog w) [(3, .ref uX), (4, .ref u)] → fi.nm = PySem.Str.ofString "S" → fi.fm = fm → fi.len = 0 →
      s.heap.get? u = none → s.heap.get? du = none → s.heap.get? f = none → s.heap.get? df = none → s.heap.get? rc = none → s.heap.get? nb = none → Dist [(u, instObj 142 du), (du, unitD w ui f (.int 0 tp)), (f, instObj 100 df), (df, fileD w fi "SEQUENTIAL" rc nb), (rc, listOf #[] rn), (nb, no)] →
      R (.ok (.ret (.ref u))) { s with heap := h', toks := tk }), codeAny (model prog w) A (.call (.ref 209) ⟨[.ref st, .ref uns, .int 4 t5, .ref wd], []⟩) R s) := by
  refine ⟨?Rq, fun kHq A prog w s base outer mean mg mb R st ds sf uns wd so uo wo ks t1 t3 t5 fm len uX duX fD dfD rcD nbD uiX pX a1 a2 a3 a4 a5 a6 a7 a8 a9 a10 S B Rm H D hso huo hwo lo1 lo2 lo3 hfm hl1 hl2 k => ?pfq⟩
  case pfq =>
    have hdp := Rm.dep
    have hun := Rm.uni
    obtain ⟨ha, dp, fr, gd, un⟩ := A
    obtain rfl : ha = none := Rm.han
    obtain rfl : fr = some outer := B.stack
    refine' enter [(st, instObj 121 ds), (ds, storeD w ks sf), (sf, so), (uns, uo), (wd, wo), (uX, instObj 142 duX), (duX, unitD w uiX fD pX), (fD, instObj 100 dfD), (dfD, fileD w ⟨a1, a2, a3, a4, a5, a6, a7, a8, a9, a10, PySem.Str.ofString "D", fm, len⟩ "DIRECT" rcD nbD)] S B Rm.d H ?ho ?hcd ?hbind ?hloc ?h ?hco ?hgen ?hk ?hcell
    walk_at "my_enter"
    intro g L' h₁ F N B' X T hold hg hL
    have T0 : KtsTurn (fs outer) g g := KtsTurn.refl
    obtain ⟨D0, D1, D2, D3, D4, D5, D6, D7, D8, _⟩ := D
    revert D8; revert D7; revert D6; revert D5; revert D4; revert D3; revert D2; revert D1; revert D0; revert T0; revert hL; revert hg; revert hold; revert T; revert X; revert B'; revert N; revert F; revert hun; revert hdp; revert k; revert hl2; revert hl1; revert hfm; revert lo3; revert lo2; revert lo1; revert hwo; revert huo; revert hso; revert H; revert Rm; revert B; revert S
    exact kHq prog w s base outer mean mg mb R st ds sf uns wd so uo wo ks t1 t3 t5 fm len uX duX fD dfD rcD nbD uiX pX a1 a2 a3 a4 a5 a6 a7 a8 a9 a10 dp gd un g L' h₁
noncomputable def openB_q (x : ((((((Program × World) × Shared) × ((Heap × List Env) × (ExcName → Option Value))) × ((((Str → Option Value) × (Str → Option Value)) × (Result → Shared → Prop)) × ((Addr × Addr) × Addr))) × ((((Addr × Addr) × Obj) × ((Obj × Obj) × Tok)) × (((Tok × Tok) × Tok) × ((PySem.Str × Int) × Addr)))) × (((((Addr × Addr) × Addr) × ((Addr × Addr) × UI)) × (((Value × Tok) × Tok) × ((Tok × Tok) × Tok))) × ((((Tok × Tok) × Tok) × ((Tok × Tok) × Nat)) × (((Option (List Code) × Nat) × Heap) × (Addr × Heap)))))) : Prop := openB_s.1 x.1.1.1.1.1.1 x.1.1.1.1.1.2 x.1.1.1.1.2 x.1.1.1.2.1.1 x.1.1.1.2.1.2 x.1.1.1.2.2 x.1.1.2.1.1.1 x.1.1.2.1.1.2 x.1.1.2.1.2 x.1.1.2.2.1.1 x.1.1.2.2.1.2 x.1.1.2.2.2 x.1.2.1.1.1.1 x.1.2.1.1.1.2 x.1.2.1.1.2 x.1.2.1.2.1.1 x.1.2.1.2.1.2 x.1.2.1.2.2 x.1.2.2.1.1.1 x.1.2.2.1.1.2 x.1.2.2.1.2 x.1.2.2.2.1.1 x.1.2.2.2.1.2 x.1.2.2.2.2 x.2.1.1.1.1.1 x.2.1.1.1.1.2 x.2.1.1.1.2 x.2.1.1.2.1.1 x.2.1.1.2.1.2 x.2.1.1.2.2 x.2.1.2.1.1.1 x.2.1.2.1.1.2 x.2.1.2.1.2 x.2.1.2.2.1.1 x.2.1.2.2.1.2 x.2.1.2.2.2 x.2.2.1.1.1.1 x.2.2.1.1.1.2 x.2.2.1.1.2 x.2.2.1.2.1.1 x.2.2.1.2.1.2 x.2.2.1.2.2 x.2.2.2.1.1.1 x.2.2.2.1.1.2 x.2.2.2.1.2 x.2.2.2.2.1 x.2.2.2.2.2
noncomputable def openB_c := @Classical.epsilon _ ⟨((((((PySem.Challenge.pw_sa0211_01, aWorld 1), {}), (({}, []), fun _ => none)), (((fun _ => none, fun _ => none), fun _ _ => True), ((0, 0), 0))), ((((0, 0), instObj 0 0), ((instObj 0 0, instObj 0 0), 0)), (((0, 0), 0), ((Str.ofString "", 0), 0)))), (((((0, 0), 0), ((0, 0), ⟨0, 0, 0, 0, .none, .none⟩)), (((.none, 0), 0), ((0, 0), 0))), ((((0, 0), 0), ((0, 0), 0)), (((none, 0), {}), (0, {})))))⟩ fun x => ¬ openB_q x
theorem openB_k : openB_q openB_c := by
  refine (?fq : ∀ (prog : Program) (w : World) (s : Shared) (base : Heap) (outer : List Env) (mean : ExcName → Option Value) (mg : Str → Option Value) (mb : Str → Option Value) (R : Result → Shared → Prop) (st : Addr) (ds : Addr) (sf : Addr) (uns : Addr) (wd : Addr) (so : Obj) (uo : Obj) (wo : Obj) (ks : Tok) (t1 : Tok) (t3 : Tok) (t5 : Tok) (fm : PySem.Str) (len : Int) (uX : Addr) (duX : Addr) (fD : Addr) (dfD : Addr) (rcD : Addr) (nbD : Addr) (uiX : UI) (pX : Value) (a1 : Tok) (a2 : Tok) (a3 : Tok) (a4 : Tok) (a5 : Tok) (a6 : Tok) (a7 : Tok) (a8 : Tok) (a9 : Tok) (a10 : Tok) (dp : Nat) (gd : Option (List Code)) (un : Nat) (g : Heap) (L' : Addr) (h₁ : Heap), openB_s.1 prog w s base outer mean mg mb R st ds sf uns wd so uo wo ks t1 t3 t5 fm len uX duX fD dfD rcD nbD uiX pX a1 a2 a3 a4 a5 a6 a7 a8 a9 a10 dp gd un g L' h₁) _ _ _ _ _ _ _ _ _ _ _ _ _ _ _ _ _ _ _ _ _ _ _ _ _ _ _ _ _ _ _ _ _ _ _ _ _ _ _ _ _ _ _ _ _ _ _ 
  intro prog w s base outer mean mg mb R st ds sf uns wd so uo wo ks t1 t3 t5 fm len uX duX fD dfD rcD nbD uiX pX a1 a2 a3 a4 a5 a6 a7 a8 a9 a10 dp gd un g L' h₁ S B Rm H hso huo hwo lo1 lo2 lo3 hfm hl1 hl2 k hdp hun F N B' X T hold hg hL T0 D0 D1 D2 D3 D4 D5 D6 D7 D8
  dsimp only
  try k_fold
  (try dsimp only at hdp hun)
  k_steps
  unfold Halt
  refine' word_K ?y1S ?y1B ?y1F ?y1N ?y1R ?y1M ?y1D ?y1lo ?y1v ?y1z ?y1s ?y1l ?y1i ?y1b ?y1_
  case y1S => assumption
  case y1B => assumption
  case y1F => k_asm
  case y1N => k_asm
  case y1R => exact Room.less (by assumption) (by decide)
  case y1M => k_mem
  case y1D => assumption
  case y1lo => assumption
  case y1v => exact rfl
  case y1z => decide +kernel
  case y1s => decide +kernel
  case y1l => k_is
  case y1i => repeat constructor
  case y1b => decide +kernel
  intro h1 tk1 t1 F1 N1
  (try dsimp only at N1)
  k_steps
  unfold Halt
  (rename Fr _ _ _ _ => Fa)
  (rename News _ _ _ _ => Na)
  refine wpAny_call (sortS S (pushX B' Fa rfl rfl) (Rm.deeper (by decide)) (has_ofX rfl B' Na (List.forall_mem_cons.mpr ⟨by k_mem, fun _ h => nomatch h⟩)) hwo lo3 (by rfl) (by rfl) (by rfl) (by rfl) (by rfl) hfm hl1 hl2 fun h2 tk2 T2 ta tf tl x1 x2 x3 => ?_)
  obtain ⟨F2, N2⟩ := use00 Fa Na x1
  have nT := new_ne Na x3
  replace N2 := useNew Fa x3 x2 N2 (new_none Fa x3)
  clear x1 x2 x3 Fa Na
  k_steps
  unfold Halt
  refine' word_K ?y2S ?y2B ?y2F ?y2N ?y2R ?y2M ?y2D ?y2lo ?y2v ?y2z ?y2s ?y2l ?y2i ?y2b ?y2_
  case y2S => assumption
  case y2B => assumption
  case y2F => k_asm
  case y2N => k_asm
  case y2R => exact Room.less (by assumption) (by decide)
  case y2M => k_mem
  case y2D => assumption
  case y2lo => assumption
  case y2v => exact rfl
  case y2z => decide +kernel
  case y2s => decide +kernel
  case y2l => k_is
  case y2i => repeat constructor
  case y2b => decide +kernel
  intro h2 tk2 t2 F2 N2
  (try dsimp only at N2)
  k_steps
  unfold Halt
  (rename Fr _ _ _ _ => Fa)
  (rename News _ _ _ _ => Na)
  refine wpAny_call (nameS S (pushX B' Fa rfl rfl) (Rm.deeper (by decide)) (has_ofX rfl B' Na (List.forall_mem_cons.mpr ⟨by k_mem, fun _ h => nomatch h⟩)) hwo lo3 (by rfl) (by rfl) fun h3 tk3 t3' x1 => ?_)
  obtain ⟨F3, N3⟩ := use00 Fa Na x1
  clear x1 Fa Na
  k_steps
  unfold Halt
  (rename Fr _ _ _ _ => Fa)
  (rename News _ _ _ _ => Na)
  refine wpAny_call (unoneD S (pushX B' Fa rfl rfl) (Rm.deeper (by decide)) (has_ofX rfl B' Na (by walk_at "my_mems")) (by walk_at "my_dist") huo lo2 fun h4 tk4 x1 => ?_)
  obtain ⟨F4, N4⟩ := use00 Fa Na x1
  clear x1 Fa Na
  k_steps
  unfold Halt
  (rename Fr _ _ _ _ => Fa)
  (rename News _ _ _ _ => Na)
  refine wpAny_call (foundB S (pushX B' Fa rfl rfl) (Rm.deeper (by decide)) (has_ofX rfl B' Na (by walk_at "my_mems")) (by walk_at "my_dist") hso lo1 fun h5 tk5 f df fi rc rn nb no so' x0 x1 x2 x3 x4 x5 x6 x7 x8 e1 e2 e3 z1 z2 z3 z4 zD => ?_)
  have z := use0 Fa Na (by k_updF) x0 x7
  obtain ⟨F5, N5⟩ := z
  replace N5 := useNew Fa z1 x1 (useNew Fa z2 x2 (useNew Fa z3 x3 (useNew Fa z4 x4 N5 (new_none Fa z4)) (new_none Fa z3)) (new_none Fa z2)) (new_none Fa z1)
  (try dsimp only at N5)
  have m1 := allNe_app' zD.1 (new_ne Na z1)
  have m2 := allNe_app' zD.2.1 (new_ne Na z2)
  have m3 := allNe_app' zD.2.2.1 (new_ne Na z3)
  have m4 := new_ne Na z4
  clear x0 x1 x2 x3 x4 x7 z1 z2 z3 z4 zD Fa Na
  k_steps
  unfold Halt
  (rename Fr _ _ _ _ => Fa)
  (rename News _ _ _ _ => Na)
  refine' unit_K ?uS ?uB ?uF ?uN ?uR ?u_
  case uS => assumption
  case uB => assumption
  case uF => exact Fa
  case uN => exact Na
  case uR => exact Room.less Rm (by decide)
  intro h6 tk6 u du ui tp F6 N6 v1 v2 v3
  clear Fa Na
  k_steps
  all_goals (try show R (.ok (.ret (.ref _))) _)
  (rename Fr _ _ _ _ => F9)
  (rename News _ _ _ _ => N9)
  refine k _ _ _ _ _ _ _ _ _ _ _ _ _ _ _ (step_cut (end0 hold F9) H (by walk_at "my_ro")) (N9.get (by k_mem)) (N9.get (by k_mem)) (N9.get (by k_mem)) (N9.get (by k_mem)) (N9.get (by k_mem)) (N9.get (by k_mem)) (by assumption) (by assumption) (N9.get (by k_mem)) (N9.get (by k_mem)) (by assumption) (by assumption) (by assumption) (by assumption) (by assumption) ?_ ?_ ?_ ?_ ?_ ?_ ?_
  iterate 6 (refine fresh_in hold N9 (by k_mem) ?_; walk_at "my_bsne")
  walk_at "my_dist"
theorem openB  (S : St w mean mg mb base) (B : Below A base outer s.heap) (Rm : Room A 9) (H : Has base outer s.heap [(st, instObj 121 ds), (ds, storeD w ks sf), (sf, so), (uns, uo), (wd, wo), (uX, instObj 142 duX), (duX, unitD w uiX fD pX), (fD, instObj 100 dfD), (dfD, fileD w ⟨a1, a2, a3, a4, a5, a6, a7, a8, a9, a10, PySem.Str.ofString "D", fm, len⟩ "DIRECT" rcD nbD)]) (D : Dist [(st, instObj 121 ds), (ds, storeD w ks sf), (sf, so), (uns, uo), (wd, wo), (uX, instObj 142 duX), (duX, unitD w uiX fD pX), (fD, instObj 100 dfD), (dfD, fileD w ⟨a1, a2, a3, a4, a5, a6, a7, a8, a9, a10, PySem.Str.ofString "D", fm, len⟩ "DIRECT" rcD nbD)])
    (hso : so.IsDictOf (PySem.strKind prog w) [(PySem.Str.ofString "D", .ref fD)]) (huo : uo.IsDictOf (PySem.intKind prog w) [(3, .ref uX)]) (hwo : wo.IsDictOf (PySem.strKind prog w) [(PySem.Str.ofString "FILE", .str (PySem.Str.ofString "S") t1), (PySem.Str.ofString "FORM", .str fm t3)])
    (lo1 : (sf == sysModules) = false) (lo2 : (uns == sysModules) = false) (lo3 : (wd == sysModules) = false) (hfm : fm = PySem.Str.ofString "FORMATTED" ∨ fm = PySem.Str.ofString "UNFORMATTED") (hl1 : 2 ≤ len) (hl2 : len ≤ 4)
    (k : ∀ h' tk u du ui f df fi rc rn nb no so' uo' tp, Step [] [sf, uns] s.heap h' → h'.get? u = some (instObj 142 du) → h'.get? du = some (unitD w ui f (.int 0 tp)) → h'.get? f = some (instObj 100 df) → h'.get? df = some (fileD w fi "SEQUENTIAL" rc nb) → h'.get? rc = some (listOf #[] rn) → h'.get? nb = some no → no.IsDictOf (PySem.intKind prog w) [] → (nb == sysModules) = false →
      h'.get? sf = some so' → h'.get? uns = some uo' → so'.IsDictOf (PySem.strKind prog w) [(PySem.Str.ofString "D", .ref fD), (PySem.Str.ofString "S", .ref f)] → uo'.IsDictOf (PySem.intKind prog w) [(3, .ref uX), (4, .ref u)] → fi.nm = PySem.Str.ofString "S" → fi.fm = fm → fi.len = 0 →
      s.heap.get? u = none → s.heap.get? du = none → s.heap.get? f = none → s.heap.get? df = none → s.heap.get? rc = none → s.heap.get? nb = none → Dist [(u, instObj 142 du), (du, unitD w ui f (.int 0 tp)), (f, instObj 100 df), (df, fileD w fi "SEQUENTIAL" rc nb), (rc, listOf #[] rn), (nb, no)] →
      R (.ok (.ret (.ref u))) { s with heap := h', toks := tk }) :
    codeAny (model prog w) A (.call (.ref 209) ⟨[.ref st, .ref uns, .int 4 t5, .ref wd], []⟩) R s :=
  openB_s.2 (fun prog w s base outer mean mg mb R st ds sf uns wd so uo wo ks t1 t3 t5 fm len uX duX fD dfD rcD nbD uiX pX a1 a2 a3 a4 a5 a6 a7 a8 a9 a10 dp gd un g L' h₁ => hk_ax (P := openB_q) _ openB_k ((((((prog, w), s), ((base, outer), mean)), (((mg, mb), R), ((st, ds), sf))), ((((uns, wd), so), ((uo, wo), ks)), (((t1, t3), t5), ((fm, len), uX)))), (((((duX, fD), dfD), ((rcD, nbD), uiX)), (((pX, a1), a2), ((a3, a4), a5))), ((((a6, a7), a8), ((a9, a10), dp)), (((gd, un), g), (L', h₁)))))) A prog w s base outer mean mg mb R st ds sf uns wd so uo wo ks t1 t3 t5 fm len uX duX fD dfD rcD nbD uiX pX a1 a2 a3 a4 a5 a6 a7 a8 a9 a10 S B Rm H D hso huo hwo lo1 lo2 lo3 hfm hl1 hl2 k
end
end
section
open PySem PySem.W PyProof.Rows PySem.Spec PySem.Calls PyProof.Rows.LCg PySem.SeqAt
theorem line_M43C_1 : True := by
  k_with_none
  w_top off
  k_with "my:k_mem" => (first | exact m0_ | exact m1_ | exact m2_ | exact m3_ | exact m4_ | exact m5_ | exact m6_ | exact m7_ | (refine m8s_ ?_; k_mem))
  k_with "my:k_ne" => (((try dsimp only); first
  | exact AllNe.mem (by assumption) (_, _) (by k_mem)
  | exact Ne.symm (AllNe.mem (by assumption) (_, _) (by k_mem))
  | assumption
  | exact Ne.symm (by assumption)
  | exact Nat.ne_of_lt (lt_at (by assumption) (by k_mem))
  | exact Nat.ne_of_gt (lt_at (by assumption) (by k_mem))
  | (refine neN ?_; omega)))
  k_with "my_enter" => ((
  (case ho => k_is)
  (case hcd => k_is)
  (case hbind => exact BindsTo.of_eq rfl)
  (case hloc => exact locs rfl)
  (case hco => exact rfl)
  (case hgen => exact rfl)
  (case hk => exact rfl)
  (case hcell => decide)))
  k_with "my_dist" => (((simp only [Dist, AllNe, and_true]); (repeat' (refine And.intro ?_ ?_)); all_goals k_ne))
  k_with "my_sub" => (first | exact List.forall_mem_nil _ | (refine List.forall_mem_cons.mpr ⟨?aZ, ?bZ⟩; (case aZ => k_mem); (case bZ => walk_at "my_sub")) | exact fun _ hq => by ((repeat refine List.Mem.tail _ ?_); exact hq))
  k_with "my_mems" => (first | exact List.forall_mem_nil _ | (refine List.forall_mem_cons.mpr ⟨?aZ, ?bZ⟩; (case aZ => k_mem); (case bZ => walk_at "my_mems")))
  k_with "my_ro" => (first | exact List.forall_mem_nil _ | (refine List.forall_mem_cons.mpr ⟨?aZ, ?bZ⟩; (case aZ => first | exact fun _ => News.get (by k_asm) (by k_mem) | exact fun hn => absurd (by simp) hn); (case bZ => walk_at "my_ro")) | exact fun _ hq _ => News.get (by k_asm) (by ((repeat refine List.Mem.tail _ ?_); exact hq)))
  k_with "my_bsne" => (first | exact List.forall_mem_nil _ | (refine List.forall_mem_cons.mpr ⟨?aZ, ?bZ⟩; (case aZ => k_ne); (case bZ => walk_at "my_bsne")) | exact OffR.all (by assumption))
  k_with "call ref" => ((k_here; (first
  | (with_reducible show wpAny _ _ (PySem.call (Value.ref 153) _) _ _ _)
  | (with_reducible show wpAny _ _ (PySem.call (Value.ref 160) _) _ _ _)
  | (with_reducible show wpAny _ _ (PySem.call (Value.ref 167) _) _ _ _)
  | (with_reducible show wpAny _ _ (PySem.call (Value.ref 181) _) _ _ _)
  | (with_reducible show wpAny _ _ (PySem.call (Value.ref 188) _) _ _ _)
  | (with_reducible show wpAny _ _ (PySem.call (Value.ref 142) _) _ _ _)); refine halt ?_))
  k_with "my:k_room" => (((try simp only [depth_mark, depth_under_make, depth_under_kw, depth_in1, depth_deeper, depth_caller]); (try dsimp only); omega))
  trivial
section
variable {prog : Program} {w : World} {A : Around} {s : Shared} {base : Heap} {outer : List Env} {mean : ExcName → Option Value} {mg mb : Str → Option Value}
  {R : Result → Shared → Prop} {st ds sf uns wd : Addr} {so uo wo : Obj} {ks t1 t2 t3 t4 t5 t6 : Tok} {fm : PySem.Str} {len : Int}
  {uX duX fX dfX rcX nbX fD dfD rcD nbD fS dfS rcS nbS : Addr} {uiX : UI} {pX : Value} {a1 a2 a3 a4 a5 a6 a7 a8 a9 a10 b1 b2 b3 b4 b5 b6 b7 b8 b9 b10 : Tok} {lenX : Int} {fmX : PySem.Str}
noncomputable def openC_s : (Rq : Program → World → Shared → Heap → List Env → (ExcName → Option Value) → (Str → Option Value) → (Str → Option Value) → (Result → Shared → Prop) → Addr → Addr → Addr → Addr → Addr → Obj → Obj → Obj → Tok → Tok → Tok → Tok → Tok → PySem.Str → Int → Addr → Addr → Addr → Addr → Addr → Tok → Tok → Tok → Tok → Tok → Tok → Tok → Tok → Tok → Tok → Nat → Option (List Code) → Nat → Heap → Addr → Heap → Prop) ×' ((∀ (prog : Program) (w : World) (s : Shared) (base : Heap) (outer : List Env) (mean : ExcName → Option Value) (mg : Str → Option Value) (mb : Str → Option Value) (R : Result → Shared → Prop) (st : Addr) (ds : Addr) (sf : Addr) (uns : Addr) (wd : Addr) (so : Obj) (uo : Obj) (wo : Obj) (ks : Tok) (t1 : Tok) (t3 : Tok) (t5 : Tok) (t6 : Tok) (fm : PySem.Str) (len : Int) (fD : Addr) (fS : Addr) (dfS : Addr) (rcS : Addr) (nbS : Addr) (b1 : Tok) (b2 : Tok) (b3 : Tok) (b4 : Tok) (b5 : Tok) (b6 : Tok) (b7 : Tok) (b8 : Tok) (b9 : Tok) (b10 : Tok) (dp : Nat) (gd : Option (List Code)) (un : Nat) (g : Heap) (L' : Addr) (h₁ : Heap), Rq prog w s base outer mean mg mb R st ds sf uns wd so uo wo ks t1 t3 t5 t6 fm len fD fS dfS rcS nbS b1 b2 b3 b4 b5 b6 b7 b8 b9 b10 dp gd un g L' h₁) → ∀ (A : Around) (prog : Program) (w : World) (s : Shared) (base : Heap) (outer : List Env) (mean : ExcName → Option Value) (mg : Str → Option Value) (mb : Str → Option Value) (R : Result → Shared → Prop) (st : Addr) (ds : Addr) (sf : Addr) (uns : Addr) (wd : Addr) (so : Obj) (uo : Obj) (wo : Obj) (ks : Tok) (t1 : Tok) (t3 : Tok) (t5 : Tok) (t6 : Tok) (fm : PySem.Str) (len : Int) (fD : Addr) (fS : Addr) (dfS : Addr) (rcS : Addr) (nbS : Addr) (b1 : Tok) (b2 : Tok) (b3 : Tok) (b4 : Tok) (b5 : Tok) (b6 : Tok) (b7 : Tok) (b8 : Tok) (b9 : Tok) (b10 : Tok) (S : St w mean mg mb base) (B : Below A base outer s.heap) (Rm : Room A 9) (H : Has base outer s.heap [(st, instObj 121 ds), (ds, storeD w ks sf), (sf, so), (uns, uo), (wd, wo), (fS, instObj 100 dfS), (dfS, fileD w ⟨b1, b2, b3, b4, b5, b6, b7, b8, b9, b10, PySem.Str.ofString "S", fm, 0⟩ "SEQUENTIAL" rcS nbS)]) (D : Dist [(st, instObj 121 ds), (ds, storeD w ks sf), (sf, so), (uns, uo), (wd, wo), (fS, instObj 100 dfS), (dfS, fileD w ⟨b1, b2, b3, b4, b5, b6, b7, b8, b9, b10, PySem.Str.ofString "S", fm, 0⟩ "SEQUENTIAL" rcS nbS)]) (hso : so.IsDictOf (PySem.strKind prog w) [(PySem.Str.ofString "D", .ref fD), (PySem.Str.ofString "S", .ref fS)]) (huo : uo.IsDictOf (PySem.intKind prog w) []) (hwo : wo.IsDictOf (PySem.strKind prog w) [(PySem.Str.ofString "FILE", .str (PySem.Str.ofString "S") t1), (PySem.Str.ofString "FORM", .str fm t3), (PySem.Str.ofString "STATUS", .str (PySem.Str.ofString "OLD") t6)]) (lo1 : (sf == sysModules) = false) (lo2 : (uns == sysModules) = false) (lo3 : (wd == sysModules) = false) (hfm : fm = PySem.Str.ofString "FORMATTED" ∨ fm = PySem.Str.ofString "UNFORMATTED") (hl1 : 2 ≤ len) (hl2 : len ≤ 4) (k : ∀ h' tk u du ui uo' tp, Step [] [uns] s.heap h' → h'.get? u = some (instObj 142 du) → h'.get? du = some (unitD w ui fS (.int 0 tp)) → h'.get? uns = some uo' → uo'.IsDictOf (PySem.intKind prog w) [(7, .ref u)] →
      s.heap.get? u = none → s.heap.get? du = none → (@Ne Nat u du) → R (.ok (.ret (.ref u))) { s with heap := h', toks := tk }), codeAny (model prog w) A (.call (.ref 209) ⟨[.ref st, .ref uns, .int 7 t5, .ref wd], []⟩) R s) := by
  refine ⟨?Rq, fun kHq A prog w s base outer mean mg mb R st ds sf uns wd so uo wo ks t1 t3 t5 t6 fm len fD fS dfS rcS nbS b1 b2 b3 b4 b5 b6 b7 b8 b9 b10 S B Rm H D hso huo hwo lo1 lo2 lo3 hfm hl1 hl2 k => ?pfq⟩
  case pfq =>
    have hdp := Rm.dep
    have hun := Rm.uni
    obtain ⟨ha, dp, fr, gd, un⟩ := A
    obtain rfl : ha = none := Rm.han
    obtain rfl : fr = some outer := B.stack
    refine' enter [(st, instObj 121 ds), (ds, storeD w ks sf), (sf, so), (uns, uo), (wd, wo), (fS, instObj 100 dfS), (dfS, fileD w ⟨b1, b2, b3, b4, b5, b6, b7, b8, b9, b10, PySem.Str.ofString "S", fm, 0⟩ "SEQUENTIAL" rcS nbS)] S B Rm.d H ?ho ?hcd ?hbind ?hloc ?h ?hco ?hgen ?hk ?hcell
    walk_at "my_enter"
    intro g L' h₁ F N B' X T hold hg hL
    have T0 : KtsTurn (fs outer) g g := KtsTurn.refl
    obtain ⟨D0, D1, D2, D3, D4, D5, D6, _⟩ := D
    revert D6; revert D5; revert D4; revert D3; revert D2; revert D1; revert D0; revert T0; revert hL; revert hg; revert hold; revert T; revert X; revert B'; revert N; revert F; revert hun; revert hdp; revert k; revert hl2; revert hl1; revert hfm; revert lo3; revert lo2; revert lo1; revert hwo; revert huo; revert hso; revert H; revert Rm; revert B; revert S
    exact kHq prog w s base outer mean mg mb R st ds sf uns wd so uo wo ks t1 t3 t5 t6 fm len fD fS dfS rcS nbS b1 b2 b3 b4 b5 b6 b7 b8 b9 b10 dp gd un g L' h₁
noncomputable def openC_q (x : ((((((Program × World) × Shared) × ((Heap × List Env) × (ExcName → Option Value))) × ((((Str → Option Value) × (Str → Option Value)) × (Result → Shared → Prop)) × ((Addr × Addr) × Addr))) × ((((Addr × Addr) × Obj) × ((Obj × Obj) × Tok)) × (((Tok × Tok) × Tok) × (Tok × PySem.Str)))) × (((((Int × Addr) × Addr) × ((Addr × Addr) × Addr)) × (((Tok × Tok) × Tok) × (Tok × Tok))) × ((((Tok × Tok) × Tok) × ((Tok × Tok) × Nat)) × (((Option (List Code) × Nat) × Heap) × (Addr × Heap)))))) : Prop := openC_s.1 x.1.1.1.1.1.1 x.1.1.1.1.1.2 x.1.1.1.1.2 x.1.1.1.2.1.1 x.1.1.1.2.1.2 x.1.1.1.2.2 x.1.1.2.1.1.1 x.1.1.2.1.1.2 x.1.1.2.1.2 x.1.1.2.2.1.1 x.1.1.2.2.1.2 x.1.1.2.2.2 x.1.2.1.1.1.1 x.1.2.1.1.1.2 x.1.2.1.1.2 x.1.2.1.2.1.1 x.1.2.1.2.1.2 x.1.2.1.2.2 x.1.2.2.1.1.1 x.1.2.2.1.1.2 x.1.2.2.1.2 x.1.2.2.2.1 x.1.2.2.2.2 x.2.1.1.1.1.1 x.2.1.1.1.1.2 x.2.1.1.1.2 x.2.1.1.2.1.1 x.2.1.1.2.1.2 x.2.1.1.2.2 x.2.1.2.1.1.1 x.2.1.2.1.1.2 x.2.1.2.1.2 x.2.1.2.2.1 x.2.1.2.2.2 x.2.2.1.1.1.1 x.2.2.1.1.1.2 x.2.2.1.1.2 x.2.2.1.2.1.1 x.2.2.1.2.1.2 x.2.2.1.2.2 x.2.2.2.1.1.1 x.2.2.2.1.1.2 x.2.2.2.1.2 x.2.2.2.2.1 x.2.2.2.2.2
noncomputable def openC_c := @Classical.epsilon _ ⟨((((((PySem.Challenge.pw_sa0211_01, aWorld 1), {}), (({}, []), fun _ => none)), (((fun _ => none, fun _ => none), fun _ _ => True), ((0, 0), 0))), ((((0, 0), instObj 0 0), ((instObj 0 0, instObj 0 0), 0)), (((0, 0), 0), (0, Str.ofString "")))), (((((0, 0), 0), ((0, 0), 0)), (((0, 0), 0), (0, 0))), ((((0, 0), 0), ((0, 0), 0)), (((none, 0), {}), (0, {})))))⟩ fun x => ¬ openC_q x
theorem openC_k : openC_q openC_c := by
  refine (?fq : ∀ (prog : Program) (w : World) (s : Shared) (base : Heap) (outer : List Env) (mean : ExcName → Option Value) (mg : Str → Option Value) (mb : Str → Option Value) (R : Result → Shared → Prop) (st : Addr) (ds : Addr) (sf : Addr) (uns : Addr) (wd : Addr) (so : Obj) (uo : Obj) (wo : Obj) (ks : Tok) (t1 : Tok) (t3 : Tok) (t5 : Tok) (t6 : Tok) (fm : PySem.Str) (len : Int) (fD : Addr) (fS : Addr) (dfS : Addr) (rcS : Addr) (nbS : Addr) (b1 : Tok) (b2 : Tok) (b3 : Tok) (b4 : Tok) (b5 : Tok) (b6 : Tok) (b7 : Tok) (b8 : Tok) (b9 : Tok) (b10 : Tok) (dp : Nat) (gd : Option (List Code)) (un : Nat) (g : Heap) (L' : Addr) (h₁ : Heap), openC_s.1 prog w s base outer mean mg mb R st ds sf uns wd so uo wo ks t1 t3 t5 t6 fm len fD fS dfS rcS nbS b1 b2 b3 b4 b5 b6 b7 b8 b9 b10 dp gd un g L' h₁) _ _ _ _ _ _ _ _ _ _ _ _ _ _ _ _ _ _ _ _ _ _ _ _ _ _ _ _ _ _ _ _ _ _ _ _ _ _ _ _ _ _ _ _ _ 
  intro prog w s base outer mean mg mb R st ds sf uns wd so uo wo ks t1 t3 t5 t6 fm len fD fS dfS rcS nbS b1 b2 b3 b4 b5 b6 b7 b8 b9 b10 dp gd un g L' h₁ S B Rm H hso huo hwo lo1 lo2 lo3 hfm hl1 hl2 k hdp hun F N B' X T hold hg hL T0 D0 D1 D2 D3 D4 D5 D6
  dsimp only
  try k_fold
  (try dsimp only at hdp hun)
  k_steps
  unfold Halt
  refine' word_K ?y1S ?y1B ?y1F ?y1N ?y1R ?y1M ?y1D ?y1lo ?y1v ?y1z ?y1s ?y1l ?y1i ?y1b ?y1_
  case y1S => assumption
  case y1B => assumption
  case y1F => k_asm
  case y1N => k_asm
  case y1R => exact Room.less (by assumption) (by decide)
  case y1M => k_mem
  case y1D => assumption
  case y1lo => assumption
  case y1v => exact rfl
  case y1z => decide +kernel
  case y1s => decide +kernel
  case y1l => k_is
  case y1i => repeat constructor
  case y1b => decide +kernel
  intro h1 tk1 t1 F1 N1
  (try dsimp only at N1)
  k_steps
  unfold Halt
  (rename Fr _ _ _ _ => Fa)
  (rename News _ _ _ _ => Na)
  refine wpAny_call (sortS S (pushX B' Fa rfl rfl) (Rm.deeper (by decide)) (has_ofX rfl B' Na (List.forall_mem_cons.mpr ⟨by k_mem, fun _ h => nomatch h⟩)) hwo lo3 (by rfl) (by rfl) (by rfl) (by rfl) (by rfl) hfm hl1 hl2 fun h2 tk2 T2 ta tf tl x1 x2 x3 => ?_)
  obtain ⟨F2, N2⟩ := use00 Fa Na x1
  have nT := new_ne Na x3
  replace N2 := useNew Fa x3 x2 N2 (new_none Fa x3)
  clear x1 x2 x3 Fa Na
  k_steps
  unfold Halt
  refine' word_K ?y2S ?y2B ?y2F ?y2N ?y2R ?y2M ?y2D ?y2lo ?y2v ?y2z ?y2s ?y2l ?y2i ?y2b ?y2_
  case y2S => assumption
  case y2B => assumption
  case y2F => k_asm
  case y2N => k_asm
  case y2R => exact Room.less (by assumption) (by decide)
  case y2M => k_mem
  case y2D => assumption
  case y2lo => assumption
  case y2v => exact rfl
  case y2z => decide +kernel
  case y2s => decide +kernel
  case y2l => k_is
  case y2i => repeat constructor
  case y2b => decide +kernel
  intro h2 tk2 t2 F2 N2
  (try dsimp only at N2)
  k_steps
  unfold Halt
  (rename Fr _ _ _ _ => Fa)
  (rename News _ _ _ _ => Na)
  refine wpAny_call (nameS S (pushX B' Fa rfl rfl) (Rm.deeper (by decide)) (has_ofX rfl B' Na (List.forall_mem_cons.mpr ⟨by k_mem, fun _ h => nomatch h⟩)) hwo lo3 (by rfl) (by rfl) fun h3 tk3 t3' x1 => ?_)
  obtain ⟨F3, N3⟩ := use00 Fa Na x1
  clear x1 Fa Na
  k_steps
  unfold Halt
  (rename Fr _ _ _ _ => Fa)
  (rename News _ _ _ _ => Na)
  refine wpAny_call (unone0 S (pushX B' Fa rfl rfl) (Rm.deeper (by decide)) (has_ofX rfl B' Na (by walk_at "my_mems")) (by walk_at "my_dist") huo lo2 fun h4 tk4 x1 => ?_)
  obtain ⟨F4, N4⟩ := use00 Fa Na x1
  clear x1 Fa Na
  k_steps
  unfold Halt
  (rename Fr _ _ _ _ => Fa)
  (rename News _ _ _ _ => Na)
  refine wpAny_call (foundC S (pushX B' Fa rfl rfl) (Rm.deeper (by decide)) (has_ofX rfl B' Na (by walk_at "my_mems")) (by walk_at "my_dist") hso lo1 hfm (by decide +kernel) fun h5 tk5 x1 => ?_)
  obtain ⟨F5, N5⟩ := use00 Fa Na x1
  clear x1 Fa Na
  k_steps
  unfold Halt
  (rename Fr _ _ _ _ => Fa)
  (rename News _ _ _ _ => Na)
  refine' unit_K ?uS ?uB ?uF ?uN ?uR ?u_
  case uS => assumption
  case uB => assumption
  case uF => exact Fa
  case uN => exact Na
  case uR => exact Room.less Rm (by decide)
  intro h6 tk6 u du ui tp F6 N6 v1 v2 v3
  clear Fa Na
  k_steps
  all_goals (try show R (.ok (.ret (.ref _))) _)
  (rename Fr _ _ _ _ => F9)
  (rename News _ _ _ _ => N9)
  refine k _ _ _ _ _ _ _ (step_cut (end0 hold F9) H (by walk_at "my_ro")) (N9.get (by k_mem)) (N9.get (by k_mem)) (N9.get (by k_mem)) (by assumption) ?_ ?_ (by k_ne)
  iterate 2 (refine fresh_in hold N9 (by k_mem) ?_; walk_at "my_bsne")
theorem openC  (S : St w mean mg mb base) (B : Below A base outer s.heap) (Rm : Room A 9) (H : Has base outer s.heap [(st, instObj 121 ds), (ds, storeD w ks sf), (sf, so), (uns, uo), (wd, wo), (fS, instObj 100 dfS), (dfS, fileD w ⟨b1, b2, b3, b4, b5, b6, b7, b8, b9, b10, PySem.Str.ofString "S", fm, 0⟩ "SEQUENTIAL" rcS nbS)]) (D : Dist [(st, instObj 121 ds), (ds, storeD w ks sf), (sf, so), (uns, uo), (wd, wo), (fS, instObj 100 dfS), (dfS, fileD w ⟨b1, b2, b3, b4, b5, b6, b7, b8, b9, b10, PySem.Str.ofString "S", fm, 0⟩ "SEQUENTIAL" rcS nbS)])
    (hso : so.IsDictOf (PySem.strKind prog w) [(PySem.Str.ofString "D", .ref fD), (PySem.Str.ofString "S", .ref fS)]) (huo : uo.IsDictOf (PySem.intKind prog w) []) (hwo : wo.IsDictOf (PySem.strKind prog w) [(PySem.Str.ofString "FILE", .str (PySem.Str.ofString "S") t1), (PySem.Str.ofString "FORM", .str fm t3), (PySem.Str.ofString "STATUS", .str (PySem.Str.ofString "OLD") t6)])
    (lo1 : (sf == sysModules) = false) (lo2 : (uns == sysModules) = false) (lo3 : (wd == sysModules) = false) (hfm : fm = PySem.Str.ofString "FORMATTED" ∨ fm = PySem.Str.ofString "UNFORMATTED") (hl1 : 2 ≤ len) (hl2 : len ≤ 4)
    (k : ∀ h' tk u du ui uo' tp, Step [] [uns] s.heap h' → h'.get? u = some (instObj 142 du) → h'.get? du = some (unitD w ui fS (.int 0 tp)) → h'.get? uns = some uo' → uo'.IsDictOf (PySem.intKind prog w) [(7, .ref u)] →
      s.heap.get? u = none → s.heap.get? du = none → (@Ne Nat u du) → R (.ok (.ret (.ref u))) { s with heap := h', toks := tk }) :
    codeAny (model prog w) A (.call (.ref 209) ⟨[.ref st, .ref uns, .int 7 t5, .ref wd], []⟩) R s :=
  openC_s.2 (fun prog w s base outer mean mg mb R st ds sf uns wd so uo wo ks t1 t3 t5 t6 fm len fD fS dfS rcS nbS b1 b2 b3 b4 b5 b6 b7 b8 b9 b10 dp gd un g L' h₁ => hk_ax (P := openC_q) _ openC_k ((((((prog, w), s), ((base, outer), mean)), (((mg, mb), R), ((st, ds), sf))), ((((uns, wd), so), ((uo, wo), ks)), (((t1, t3), t5), (t6, fm)))), (((((len, fD), fS), ((dfS, rcS), nbS)), (((b1, b2), b3), (b4, b5))), ((((b6, b7), b8), ((b9, b10), dp)), (((gd, un), g), (L', h₁)))))) A prog w s base outer mean mg mb R st ds sf uns wd so uo wo ks t1 t3 t5 t6 fm len fD fS dfS rcS nbS b1 b2 b3 b4 b5 b6 b7 b8 b9 b10 S B Rm H D hso huo hwo lo1 lo2 lo3 hfm hl1 hl2 k
end
end
section
open PySem PySem.W PyProof.Rows PySem.Spec PySem.Calls PyProof.Rows.LCg PySem.SeqAt
theorem line_M43D_1 : True := by
  k_with_none
  w_top off
  k_with "my:k_mem" => (first | exact m0_ | exact m1_ | exact m2_ | exact m3_ | exact m4_ | exact m5_ | exact m6_ | exact m7_ | (refine m8s_ ?_; k_mem))
  k_with "my:k_ne" => (((try dsimp only); first
  | exact AllNe.mem (by assumption) (_, _) (by k_mem)
  | exact Ne.symm (AllNe.mem (by assumption) (_, _) (by k_mem))
  | assumption
  | exact Ne.symm (by assumption)
  | exact Nat.ne_of_lt (lt_at (by assumption) (by k_mem))
  | exact Nat.ne_of_gt (lt_at (by assumption) (by k_mem))
  | (refine neN ?_; omega)))
  k_with "my_enter" => ((
  (case ho => k_is)
  (case hcd => k_is)
  (case hbind => exact BindsTo.of_eq rfl)
  (case hloc => exact locs rfl)
  (case hco => exact rfl)
  (case hgen => exact rfl)
  (case hk => exact rfl)
  (case hcell => decide)))
  k_with "my_dist" => (((simp only [Dist, AllNe, and_true]); (repeat' (refine And.intro ?_ ?_)); all_goals k_ne))
  k_with "my_sub" => (first | exact List.forall_mem_nil _ | (refine List.forall_mem_cons.mpr ⟨?aZ, ?bZ⟩; (case aZ => k_mem); (case bZ => walk_at "my_sub")) | exact fun _ hq => by ((repeat refine List.Mem.tail _ ?_); exact hq))
  k_with "my_mems" => (first | exact List.forall_mem_nil _ | (refine List.forall_mem_cons.mpr ⟨?aZ, ?bZ⟩; (case aZ => k_mem); (case bZ => walk_at "my_mems")))
  k_with "my_ro" => (first | exact List.forall_mem_nil _ | (refine List.forall_mem_cons.mpr ⟨?aZ, ?bZ⟩; (case aZ => first | exact fun _ => News.get (by k_asm) (by k_mem) | exact fun hn => absurd (by simp) hn); (case bZ => walk_at "my_ro")) | exact fun _ hq _ => News.get (by k_asm) (by ((repeat refine List.Mem.tail _ ?_); exact hq)))
  k_with "my_bsne" => (first | exact List.forall_mem_nil _ | (refine List.forall_mem_cons.mpr ⟨?aZ, ?bZ⟩; (case aZ => k_ne); (case bZ => walk_at "my_bsne")) | exact OffR.all (by assumption))
  k_with "call ref" => ((k_here; (first
  | (with_reducible show wpAny _ _ (PySem.call (Value.ref 153) _) _ _ _)
  | (with_reducible show wpAny _ _ (PySem.call (Value.ref 160) _) _ _ _)
  | (with_reducible show wpAny _ _ (PySem.call (Value.ref 167) _) _ _ _)
  | (with_reducible show wpAny _ _ (PySem.call (Value.ref 181) _) _ _ _)
  | (with_reducible show wpAny _ _ (PySem.call (Value.ref 188) _) _ _ _)
  | (with_reducible show wpAny _ _ (PySem.call (Value.ref 142) _) _ _ _)); refine halt ?_))
  k_with "my:k_room" => (((try simp only [depth_mark, depth_under_make, depth_under_kw, depth_in1, depth_deeper, depth_caller]); (try dsimp only); omega))
  trivial
section
variable {prog : Program} {w : World} {A : Around} {s : Shared} {base : Heap} {outer : List Env} {mean : ExcName → Option Value} {mg mb : Str → Option Value}
  {R : Result → Shared → Prop} {st ds sf uns wd : Addr} {so uo wo : Obj} {ks t1 t2 t3 t4 t5 t6 : Tok} {fm : PySem.Str} {len : Int}
  {uX duX fX dfX rcX nbX fD dfD rcD nbD fS dfS rcS nbS : Addr} {uiX : UI} {pX : Value} {a1 a2 a3 a4 a5 a6 a7 a8 a9 a10 b1 b2 b3 b4 b5 b6 b7 b8 b9 b10 : Tok} {lenX : Int} {fmX : PySem.Str}
noncomputable def openD_s : (Rq : Program → World → Shared → Heap → List Env → (ExcName → Option Value) → (Str → Option Value) → (Str → Option Value) → (Result → Shared → Prop) → Addr → Addr → Addr → Addr → Addr → Obj → Obj → Obj → Tok → Tok → Tok → Tok → Tok → Tok → Tok → PySem.Str → Int → Addr → Addr → Addr → Addr → Addr → Addr → Addr → Addr → Addr → Addr → UI → Value → Tok → Tok → Tok → Tok → Tok → Tok → Tok → Tok → Tok → Tok → Tok → Tok → Tok → Tok → Tok → Tok → Tok → Tok → Tok → Tok → Nat → Option (List Code) → Nat → Heap → Addr → Heap → Prop) ×' ((∀ (prog : Program) (w : World) (s : Shared) (base : Heap) (outer : List Env) (mean : ExcName → Option Value) (mg : Str → Option Value) (mb : Str → Option Value) (R : Result → Shared → Prop) (st : Addr) (ds : Addr) (sf : Addr) (uns : Addr) (wd : Addr) (so : Obj) (uo : Obj) (wo : Obj) (ks : Tok) (t1 : Tok) (t2 : Tok) (t3 : Tok) (t4 : Tok) (t5 : Tok) (t6 : Tok) (fm : PySem.Str) (len : Int) (uX : Addr) (duX : Addr) (fD : Addr) (dfD : Addr) (rcD : Addr) (nbD : Addr) (fS : Addr) (dfS : Addr) (rcS : Addr) (nbS : Addr) (uiX : UI) (pX : Value) (a1 : Tok) (a2 : Tok) (a3 : Tok) (a4 : Tok) (a5 : Tok) (a6 : Tok) (a7 : Tok) (a8 : Tok) (a9 : Tok) (a10 : Tok) (b1 : Tok) (b2 : Tok) (b3 : Tok) (b4 : Tok) (b5 : Tok) (b6 : Tok) (b7 : Tok) (b8 : Tok) (b9 : Tok) (b10 : Tok) (dp : Nat) (gd : Option (List Code)) (un : Nat) (g : Heap) (L' : Addr) (h₁ : Heap), Rq prog w s base outer mean mg mb R st ds sf uns wd so uo wo ks t1 t2 t3 t4 t5 t6 fm len uX duX fD dfD rcD nbD fS dfS rcS nbS uiX pX a1 a2 a3 a4 a5 a6 a7 a8 a9 a10 b1 b2 b3 b4 b5 b6 b7 b8 b9 b10 dp gd un g L' h₁) → ∀ (A : Around) (prog : Program) (w : World) (s : Shared) (base : Heap) (outer : List Env) (mean : ExcName → Option Value) (mg : Str → Option Value) (mb : Str → Option Value) (R : Result → Shared → Prop) (st : Addr) (ds : Addr) (sf : Addr) (uns : Addr) (wd : Addr) (so : Obj) (uo : Obj) (wo : Obj) (ks : Tok) (t1 : Tok) (t2 : Tok) (t3 : Tok) (t4 : Tok) (t5 : Tok) (t6 : Tok) (fm : PySem.Str) (len : Int) (uX : Addr) (duX : Addr) (fD : Addr) (dfD : Addr) (rcD : Addr) (nbD : Addr) (fS : Addr) (dfS : Addr) (rcS : Addr) (nbS : Addr) (uiX : UI) (pX : Value) (a1 : Tok) (a2 : Tok) (a3 : Tok) (a4 : Tok) (a5 : Tok) (a6 : Tok) (a7 : Tok) (a8 : Tok) (a9 : Tok) (a10 : Tok) (b1 : Tok) (b2 : Tok) (b3 : Tok) (b4 : Tok) (b5 : Tok) (b6 : Tok) (b7 : Tok) (b8 : Tok) (b9 : Tok) (b10 : Tok) (S : St w mean mg mb base) (B : Below A base outer s.heap) (Rm : Room A 9) (H : Has base outer s.heap [(st, instObj 121 ds), (ds, storeD w ks sf), (sf, so), (uns, uo), (wd, wo), (uX, instObj 142 duX), (duX, unitD w uiX fS pX), (fS, instObj 100 dfS), (dfS, fileD w ⟨b1, b2, b3, b4, b5, b6, b7, b8, b9, b10, PySem.Str.ofString "S", fm, 0⟩ "SEQUENTIAL" rcS nbS), (fD, instObj 100 dfD), (dfD, fileD w ⟨a1, a2, a3, a4, a5, a6, a7, a8, a9, a10, PySem.Str.ofString "D", fm, len⟩ "DIRECT" rcD nbD)]) (D : Dist [(st, instObj 121 ds), (ds, storeD w ks sf), (sf, so), (uns, uo), (wd, wo), (uX, instObj 142 duX), (duX, unitD w uiX fS pX), (fS, instObj 100 dfS), (dfS, fileD w ⟨b1, b2, b3, b4, b5, b6, b7, b8, b9, b10, PySem.Str.ofString "S", fm, 0⟩ "SEQUENTIAL" rcS nbS), (fD, instObj 100 dfD), (dfD, fileD w ⟨a1, a2, a3, a4, a5, a6, a7, a8, a9, a10, PySem.Str.ofString "D", fm, len⟩ "DIRECT" rcD nbD)]) (hso : so.IsDictOf (PySem.strKind prog w) [(PySem.Str.ofString "D", .ref fD), (PySem.Str.ofString "S", .ref fS)]) (huo : uo.IsDictOf (PySem.intKind prog w) [(7, .ref uX)]) (hwo : wo.IsDictOf (PySem.strKind prog w) [(PySem.Str.ofString "FILE", .str (PySem.Str.ofString "D") t1), (PySem.Str.ofString "ACCESS", .str (PySem.Str.ofString "DIRECT") t2), (PySem.Str.ofString "FORM", .str fm t3), (PySem.Str.ofString "RECL", .int len t4), (PySem.Str.ofString "STATUS", .str (PySem.Str.ofString "OLD") t6)]) (lo1 : (sf == sysModules) = false) (lo2 : (uns == sysModules) = false) (lo3 : (wd == sysModules) = false) (hfm : fm = PySem.Str.ofString "FORMATTED" ∨ fm = PySem.Str.ofString "UNFORMATTED") (hl1 : 2 ≤ len) (hl2 : len ≤ 4) (k : ∀ h' tk u du ui uo' tp, Step [] [uns] s.heap h' → h'.get? u = some (instObj 142 du) → h'.get? du = some (unitD w ui fD (.int 0 tp)) → h'.get? uns = some uo' → uo'.IsDictOf (PySem.intKind prog w) [(7, .ref uX), (4, .ref u)] →
      s.heap.get? u = none → s.heap.get? du = none → (@Ne Nat u du) → R (.ok (.ret (.ref u))) { s with heap := h', toks := tk }), codeAny (model prog w) A (.call (.ref 209) ⟨[.ref st, .ref uns, .int 4 t5, .ref wd], []⟩) R s) := by
  refine ⟨?Rq, fun kHq A prog w s base outer mean mg mb R st ds sf uns wd so uo wo ks t1 t2 t3 t4 t5 t6 fm len uX duX fD dfD rcD nbD fS dfS rcS nbS uiX pX a1 a2 a3 a4 a5 a6 a7 a8 a9 a10 b1 b2 b3 b4 b5 b6 b7 b8 b9 b10 S B Rm H D hso huo hwo lo1 lo2 lo3 hfm hl1 hl2 k => ?pfq⟩
  case pfq =>
    have hdp := Rm.dep
    have hun := Rm.uni
    obtain ⟨ha, dp, fr, gd, un⟩ := A
    obtain rfl : ha = none := Rm.han
    obtain rfl : fr = some outer := B.stack
    refine' enter [(st, instObj 121 ds), (ds, storeD w ks sf), (sf, so), (uns, uo), (wd, wo), (uX, instObj 142 duX), (duX, unitD w uiX fS pX), (fS, instObj 100 dfS), (dfS, fileD w ⟨b1, b2, b3, b4, b5, b6, b7, b8, b9, b10, PySem.Str.ofString "S", fm, 0⟩ "SEQUENTIAL" rcS nbS), (fD, instObj 100 dfD), (dfD, fileD w ⟨a1, a2, a3, a4, a5, a6, a7, a8, a9, a10, PySem.Str.ofString "D", fm, len⟩ "DIRECT" rcD nbD)] S B Rm.d H ?ho ?hcd ?hbind ?hloc ?h ?hco ?hgen ?hk ?hcell
    walk_at "my_enter"
    intro g L' h₁ F N B' X T hold hg hL
    have T0 : KtsTurn (fs outer) g g := KtsTurn.refl
    obtain ⟨D0, D1, D2, D3, D4, D5, D6, D7, D8, D9, D10, _⟩ := D
    revert D10; revert D9; revert D8; revert D7; revert D6; revert D5; revert D4; revert D3; revert D2; revert D1; revert D0; revert T0; revert hL; revert hg; revert hold; revert T; revert X; revert B'; revert N; revert F; revert hun; revert hdp; revert k; revert hl2; revert hl1; revert hfm; revert lo3; revert lo2; revert lo1; revert hwo; revert huo; revert hso; revert H; revert Rm; revert B; revert S
    exact kHq prog w s base outer mean mg mb R st ds sf uns wd so uo wo ks t1 t2 t3 t4 t5 t6 fm len uX duX fD dfD rcD nbD fS dfS rcS nbS uiX pX a1 a2 a3 a4 a5 a6 a7 a8 a9 a10 b1 b2 b3 b4 b5 b6 b7 b8 b9 b10 dp gd un g L' h₁
noncomputable def openD_q (x : ((((((Program × World) × (Shared × Heap)) × ((List Env × (ExcName → Option Value)) × ((Str → Option Value) × (Str → Option Value)))) × ((((Result → Shared → Prop) × Addr) × (Addr × Addr)) × ((Addr × Addr) × (Obj × Obj)))) × ((((Obj × Tok) × (Tok × Tok)) × ((Tok × Tok) × (Tok × Tok))) × (((PySem.Str × Int) × (Addr × Addr)) × ((Addr × Addr) × (Addr × Addr))))) × (((((Addr × Addr) × (Addr × Addr)) × ((UI × Value) × (Tok × Tok))) × (((Tok × Tok) × (Tok × Tok)) × ((Tok × Tok) × (Tok × Tok)))) × ((((Tok × Tok) × (Tok × Tok)) × ((Tok × Tok) × (Tok × Tok))) × (((Tok × Tok) × (Nat × Option (List Code))) × ((Nat × Heap) × (Addr × Heap))))))) : Prop := openD_s.1 x.1.1.1.1.1.1 x.1.1.1.1.1.2 x.1.1.1.1.2.1 x.1.1.1.1.2.2 x.1.1.1.2.1.1 x.1.1.1.2.1.2 x.1.1.1.2.2.1 x.1.1.1.2.2.2 x.1.1.2.1.1.1 x.1.1.2.1.1.2 x.1.1.2.1.2.1 x.1.1.2.1.2.2 x.1.1.2.2.1.1 x.1.1.2.2.1.2 x.1.1.2.2.2.1 x.1.1.2.2.2.2 x.1.2.1.1.1.1 x.1.2.1.1.1.2 x.1.2.1.1.2.1 x.1.2.1.1.2.2 x.1.2.1.2.1.1 x.1.2.1.2.1.2 x.1.2.1.2.2.1 x.1.2.1.2.2.2 x.1.2.2.1.1.1 x.1.2.2.1.1.2 x.1.2.2.1.2.1 x.1.2.2.1.2.2 x.1.2.2.2.1.1 x.1.2.2.2.1.2 x.1.2.2.2.2.1 x.1.2.2.2.2.2 x.2.1.1.1.1.1 x.2.1.1.1.1.2 x.2.1.1.1.2.1 x.2.1.1.1.2.2 x.2.1.1.2.1.1 x.2.1.1.2.1.2 x.2.1.1.2.2.1 x.2.1.1.2.2.2 x.2.1.2.1.1.1 x.2.1.2.1.1.2 x.2.1.2.1.2.1 x.2.1.2.1.2.2 x.2.1.2.2.1.1 x.2.1.2.2.1.2 x.2.1.2.2.2.1 x.2.1.2.2.2.2 x.2.2.1.1.1.1 x.2.2.1.1.1.2 x.2.2.1.1.2.1 x.2.2.1.1.2.2 x.2.2.1.2.1.1 x.2.2.1.2.1.2 x.2.2.1.2.2.1 x.2.2.1.2.2.2 x.2.2.2.1.1.1 x.2.2.2.1.1.2 x.2.2.2.1.2.1 x.2.2.2.1.2.2 x.2.2.2.2.1.1 x.2.2.2.2.1.2 x.2.2.2.2.2.1 x.2.2.2.2.2.2
noncomputable def openD_c := @Classical.epsilon _ ⟨((((((PySem.Challenge.pw_sa0211_01, aWorld 1), ({}, {})), (([], fun _ => none), (fun _ => none, fun _ => none))), (((fun _ _ => True, 0), (0, 0)), ((0, 0), (instObj 0 0, instObj 0 0)))), ((((instObj 0 0, 0), (0, 0)), ((0, 0), (0, 0))), (((Str.ofString "", 0), (0, 0)), ((0, 0), (0, 0))))), (((((0, 0), (0, 0)), ((⟨0, 0, 0, 0, .none, .none⟩, .none), (0, 0))), (((0, 0), (0, 0)), ((0, 0), (0, 0)))), ((((0, 0), (0, 0)), ((0, 0), (0, 0))), (((0, 0), (0, none)), ((0, {}), (0, {}))))))⟩ fun x => ¬ openD_q x
theorem openD_k : openD_q openD_c := by
  refine (?fq : ∀ (prog : Program) (w : World) (s : Shared) (base : Heap) (outer : List Env) (mean : ExcName → Option Value) (mg : Str → Option Value) (mb : Str → Option Value) (R : Result → Shared → Prop) (st : Addr) (ds : Addr) (sf : Addr) (uns : Addr) (wd : Addr) (so : Obj) (uo : Obj) (wo : Obj) (ks : Tok) (t1 : Tok) (t2 : Tok) (t3 : Tok) (t4 : Tok) (t5 : Tok) (t6 : Tok) (fm : PySem.Str) (len : Int) (uX : Addr) (duX : Addr) (fD : Addr) (dfD : Addr) (rcD : Addr) (nbD : Addr) (fS : Addr) (dfS : Addr) (rcS : Addr) (nbS : Addr) (uiX : UI) (pX : Value) (a1 : Tok) (a2 : Tok) (a3 : Tok) (a4 : Tok) (a5 : Tok) (a6 : Tok) (a7 : Tok) (a8 : Tok) (a9 : Tok) (a10 : Tok) (b1 : Tok) (b2 : Tok) (b3 : Tok) (b4 : Tok) (b5 : Tok) (b6 : Tok) (b7 : Tok) (b8 : Tok) (b9 : Tok) (b10 : Tok) (dp : Nat) (gd : Option (List Code)) (un : Nat) (g : Heap) (L' : Addr) (h₁ : Heap), openD_s.1 prog w s base outer mean mg mb R st ds sf uns wd so uo wo ks t1 t2 t3 t4 t5 t6 fm len uX duX fD dfD rcD nbD fS dfS rcS nbS uiX pX a1 a2 a3 a4 a5 a6 a7 a8 a9 a10 b1 b2 b3 b4 b5 b6 b7 b8 b9 b10 dp gd un g L' h₁) _ _ _ _ _ _ _ _ _ _ _ _ _ _ _ _ _ _ _ _ _ _ _ _ _ _ _ _ _ _ _ _ _ _ _ _ _ _ _ _ _ _ _ _ _ _ _ _ _ _ _ _ _ _ _ _ _ _ _ _ _ _ _ _ 
  intro prog w s base outer mean mg mb R st ds sf uns wd so uo wo ks t1 t2 t3 t4 t5 t6 fm len uX duX fD dfD rcD nbD fS dfS rcS nbS uiX pX a1 a2 a3 a4 a5 a6 a7 a8 a9 a10 b1 b2 b3 b4 b5 b6 b7 b8 b9 b10 dp gd un g L' h₁ S B Rm H hso huo hwo lo1 lo2 lo3 hfm hl1 hl2 k hdp hun F N B' X T hold hg hL T0 D0 D1 D2 D3 D4 D5 D6 D7 D8 D9 D10
  dsimp only
  try k_fold
  (try dsimp only at hdp hun)
  k_steps
  unfold Halt
  refine' word_K ?y1S ?y1B ?y1F ?y1N ?y1R ?y1M ?y1D ?y1lo ?y1v ?y1z ?y1s ?y1l ?y1i ?y1b ?y1_
  case y1S => assumption
  case y1B => assumption
  case y1F => k_asm
  case y1N => k_asm
  case y1R => exact Room.less (by assumption) (by decide)
  case y1M => k_mem
  case y1D => assumption
  case y1lo => assumption
  case y1v => exact rfl
  case y1z => decide +kernel
  case y1s => decide +kernel
  case y1l => k_is
  case y1i => repeat constructor
  case y1b => decide +kernel
  intro h1 tk1 t1 F1 N1
  (try dsimp only at N1)
  k_steps
  unfold Halt
  (rename Fr _ _ _ _ => Fa)
  (rename News _ _ _ _ => Na)
  refine wpAny_call (sortD S (pushX B' Fa rfl rfl) (Rm.deeper (by decide)) (has_ofX rfl B' Na (List.forall_mem_cons.mpr ⟨by k_mem, fun _ h => nomatch h⟩)) hwo lo3 (by rfl) (by rfl) (by rfl) (by rfl) (by rfl) hfm hl1 hl2 fun h2 tk2 T2 ta tf tl x1 x2 x3 => ?_)
  obtain ⟨F2, N2⟩ := use00 Fa Na x1
  have nT := new_ne Na x3
  replace N2 := useNew Fa x3 x2 N2 (new_none Fa x3)
  clear x1 x2 x3 Fa Na
  k_steps
  unfold Halt
  refine' word_K ?y2S ?y2B ?y2F ?y2N ?y2R ?y2M ?y2D ?y2lo ?y2v ?y2z ?y2s ?y2l ?y2i ?y2b ?y2_
  case y2S => assumption
  case y2B => assumption
  case y2F => k_asm
  case y2N => k_asm
  case y2R => exact Room.less (by assumption) (by decide)
  case y2M => k_mem
  case y2D => assumption
  case y2lo => assumption
  case y2v => exact rfl
  case y2z => decide +kernel
  case y2s => decide +kernel
  case y2l => k_is
  case y2i => repeat constructor
  case y2b => decide +kernel
  intro h2 tk2 t2 F2 N2
  (try dsimp only at N2)
  k_steps
  unfold Halt
  (rename Fr _ _ _ _ => Fa)
  (rename News _ _ _ _ => Na)
  refine wpAny_call (nameD S (pushX B' Fa rfl rfl) (Rm.deeper (by decide)) (has_ofX rfl B' Na (List.forall_mem_cons.mpr ⟨by k_mem, fun _ h => nomatch h⟩)) hwo lo3 (by rfl) (by rfl) fun h3 tk3 t3' x1 => ?_)
  obtain ⟨F3, N3⟩ := use00 Fa Na x1
  clear x1 Fa Na
  k_steps
  unfold Halt
  (rename Fr _ _ _ _ => Fa)
  (rename News _ _ _ _ => Na)
  refine wpAny_call (unoneS S (pushX B' Fa rfl rfl) (Rm.deeper (by decide)) (has_ofX rfl B' Na (by walk_at "my_mems")) (by walk_at "my_dist") huo lo2 fun h4 tk4 x1 => ?_)
  obtain ⟨F4, N4⟩ := use00 Fa Na x1
  clear x1 Fa Na
  k_steps
  unfold Halt
  (rename Fr _ _ _ _ => Fa)
  (rename News _ _ _ _ => Na)
  refine wpAny_call (foundD S (pushX B' Fa rfl rfl) (Rm.deeper (by decide)) (has_ofX rfl B' Na (by walk_at "my_mems")) (by walk_at "my_dist") hso lo1 hfm (by decide +kernel) fun h5 tk5 x1 => ?_)
  obtain ⟨F5, N5⟩ := use00 Fa Na x1
  clear x1 Fa Na
  k_steps
  unfold Halt
  (rename Fr _ _ _ _ => Fa)
  (rename News _ _ _ _ => Na)
  refine' unit_K ?uS ?uB ?uF ?uN ?uR ?u_
  case uS => assumption
  case uB => assumption
  case uF => exact Fa
  case uN => exact Na
  case uR => exact Room.less Rm (by decide)
  intro h6 tk6 u du ui tp F6 N6 v1 v2 v3
  clear Fa Na
  k_steps
  all_goals (try show R (.ok (.ret (.ref _))) _)
  (rename Fr _ _ _ _ => F9)
  (rename News _ _ _ _ => N9)
  refine k _ _ _ _ _ _ _ (step_cut (end0 hold F9) H (by walk_at "my_ro")) (N9.get (by k_mem)) (N9.get (by k_mem)) (N9.get (by k_mem)) (by assumption) ?_ ?_ (by k_ne)
  iterate 2 (refine fresh_in hold N9 (by k_mem) ?_; walk_at "my_bsne")
theorem openD  (S : St w mean mg mb base) (B : Below A base outer s.heap) (Rm : Room A 9) (H : Has base outer s.heap [(st, instObj 121 ds), (ds, storeD w ks sf), (sf, so), (uns, uo), (wd, wo), (uX, instObj 142 duX), (duX, unitD w uiX fS pX), (fS, instObj 100 dfS), (dfS, fileD w ⟨b1, b2, b3, b4, b5, b6, b7, b8, b9, b10, PySem.Str.ofString "S", fm, 0⟩ "SEQUENTIAL" rcS nbS), (fD, instObj 100 dfD), (dfD, fileD w ⟨a1, a2, a3, a4, a5, a6, a7, a8, a9, a10, PySem.Str.ofString "D", fm, len⟩ "DIRECT" rcD nbD)]) (D : Dist [(st, instObj 121 ds), (ds, storeD w ks sf), (sf, so), (uns, uo), (wd, wo), (uX, instObj 142 duX), (duX, unitD w uiX fS pX), (fS, instObj 100 dfS), (dfS, fileD w ⟨b1, b2, b3, b4, b5, b6, b7, b8, b9, b10, PySem.Str.ofString "S", fm, 0⟩ "SEQUENTIAL" rcS nbS), (fD, instObj 100 dfD), (dfD, fileD w ⟨a1, a2, a3, a4, a5, a6, a7, a8, a9, a10, PySem.Str.ofString "D", fm, len⟩ "DIRECT" rcD nbD)])
    (hso : so.IsDictOf (PySem.strKind prog w) [(PySem.Str.ofString "D", .ref fD), (PySem.Str.ofString "S", .ref fS)]) (huo : uo.IsDictOf (PySem.intKind prog w) [(7, .ref uX)]) (hwo : wo.IsDictOf (PySem.strKind prog w) [(PySem.Str.ofString "FILE", .str (PySem.Str.ofString "D") t1), (PySem.Str.ofString "ACCESS", .str (PySem.Str.ofString "DIRECT") t2), (PySem.Str.ofString "FORM", .str fm t3), (PySem.Str.ofString "RECL", .int len t4), (PySem.Str.ofString "STATUS", .str (PySem.Str.ofString "OLD") t6)])
    (lo1 : (sf == sysModules) = false) (lo2 : (uns == sysModules) = false) (lo3 : (wd == sysModules) = false) (hfm : fm = PySem.Str.ofString "FORMATTED" ∨ fm = PySem.Str.ofString "UNFORMATTED") (hl1 : 2 ≤ len) (hl2 : len ≤ 4)
    (k : ∀ h' tk u du ui uo' tp, Step [] [uns] s.heap h' → h'.get? u = some (instObj 142 du) → h'.get? du = some (unitD w ui fD (.int 0 tp)) → h'.get? uns = some uo' → uo'.IsDictOf (PySem.intKind prog w) [(7, .ref uX), (4, .ref u)] →
      s.heap.get? u = none → s.heap.get? du = none → (@Ne Nat u du) → R (.ok (.ret (.ref u))) { s with heap := h', toks := tk }) :
    codeAny (model prog w) A (.call (.ref 209) ⟨[.ref st, .ref uns, .int 4 t5, .ref wd], []⟩) R s :=
  openD_s.2 (fun prog w s base outer mean mg mb R st ds sf uns wd so uo wo ks t1 t2 t3 t4 t5 t6 fm len uX duX fD dfD rcD nbD fS dfS rcS nbS uiX pX a1 a2 a3 a4 a5 a6 a7 a8 a9 a10 b1 b2 b3 b4 b5 b6 b7 b8 b9 b10 dp gd un g L' h₁ => hk_ax (P := openD_q) _ openD_k ((((((prog, w), (s, base)), ((outer, mean), (mg, mb))), (((R, st), (ds, sf)), ((uns, wd), (so, uo)))), ((((wo, ks), (t1, t2)), ((t3, t4), (t5, t6))), (((fm, len), (uX, duX)), ((fD, dfD), (rcD, nbD))))), (((((fS, dfS), (rcS, nbS)), ((uiX, pX), (a1, a2))), (((a3, a4), (a5, a6)), ((a7, a8), (a9, a10)))), ((((b1, b2), (b3, b4)), ((b5, b6), (b7, b8))), (((b9, b10), (dp, gd)), ((un, g), (L', h₁))))))) A prog w s base outer mean mg mb R st ds sf uns wd so uo wo ks t1 t2 t3 t4 t5 t6 fm len uX duX fD dfD rcD nbD fS dfS rcS nbS uiX pX a1 a2 a3 a4 a5 a6 a7 a8 a9 a10 b1 b2 b3 b4 b5 b6 b7 b8 b9 b10 S B Rm H D hso huo hwo lo1 lo2 lo3 hfm hl1 hl2 k
end
end
section
open PySem PySem.W PyProof.Rows PySem.Spec PySem.Calls PyProof.Rows.LCg PySem.SeqAt
theorem line_M33E_1 : True := by
  k_with_none
  w_top off
  k_with "my:k_mem" => (first | exact m0_ | exact m1_ | exact m2_ | exact m3_ | exact m4_ | exact m5_ | exact m6_ | exact m7_ | (refine m8s_ ?_; k_mem))
  k_with "my:k_ne" => (((try dsimp only); first
  | exact AllNe.mem (by assumption) (_, _) (by k_mem)
  | exact Ne.symm (AllNe.mem (by assumption) (_, _) (by k_mem))
  | assumption
  | exact Ne.symm (by assumption)
  | exact Nat.ne_of_lt (lt_at (by assumption) (by k_mem))
  | exact Nat.ne_of_gt (lt_at (by assumption) (by k_mem))
  | (refine neN ?_; omega)))
  k_with "my_enter" => ((
  (case ho => k_is)
  (case hcd => k_is)
  (case hbind => exact BindsTo.of_eq rfl)
  (case hloc => exact locs rfl)
  (case hco => exact rfl)
  (case hgen => exact rfl)
  (case hk => exact rfl)
  (case hcell => decide)))
  k_with "my_dist" => (((simp only [Dist, AllNe, and_true]); (repeat' (refine And.intro ?_ ?_)); all_goals k_ne))
  k_with "my_bs" => (first | exact List.forall_mem_nil _ | (refine List.forall_mem_cons.mpr ⟨⟨⟨_, by k_mem⟩, ⟨by k_ne, by k_ne⟩⟩, ?_⟩; walk_at "my_bs"))
  k_with "my_bs0" => (first | exact List.forall_mem_nil _ | (refine List.forall_mem_cons.mpr ⟨⟨_, by k_mem⟩, ?_⟩; walk_at "my_bs0"))
  k_with "my_ro" => (first | exact List.forall_mem_nil _ | (refine List.forall_mem_cons.mpr ⟨?aZ, ?bZ⟩; (case aZ => first | exact fun _ => News.get (by k_asm) (by k_mem) | exact fun hn => absurd (by simp) hn); (case bZ => walk_at "my_ro")))
  k_with "exec Raise some none" => ((k_here; (with_reducible show wpAny _ _ (exec (Stmt.Raise (some (Expr.Call (Expr.Name (PySem.Str.ofString "IoFault") _) _ _ _)) none _) _) _ _ _); k_dflt (refine' raise_K (C := 51) ?XZ ?KZ ?bZ ?tZ ?hZ ?_; (case XZ => k_asm); (case KZ => k_is); (case bZ => rfl); (case tZ => rfl); (case hZ => first | exact rfl | exact Room.hand (by assumption)); k_whole)))
  k_with "exec Raise some none" => ((k_here; (with_reducible show wpAny _ _ (exec (Stmt.Raise (some (Expr.Call (Expr.Name (PySem.Str.ofString "EndFault") _) _ _ _)) none _) _) _ _ _); k_dflt (refine' raise_K (C := 70) ?XZ ?KZ ?bZ ?tZ ?hZ ?_; (case XZ => k_asm); (case KZ => k_is); (case bZ => rfl); (case tZ => rfl); (case hZ => first | exact rfl | exact Room.hand (by assumption)); k_whole)))
  k_with "call ref" => ((k_here; (with_reducible show wpAny _ _ (PySem.call (Value.ref 51) [_, _]) _ _ _); k_dflt (refine' mk51_K ?SZ ?BZ ?FZ ?NZ ?RZ ?_; (case SZ => assumption); (case BZ => assumption); (case FZ => k_asm); (case NZ => k_asm); (case RZ => exact Room.less (by assumption) (by decide)); k_whole); intro h' tk' e' t' d' tx' ty' F' N' l1 l2 l3; (try k_sweep)))
  k_with "call ref" => ((k_here; (with_reducible show wpAny _ _ (PySem.call (Value.ref 70) [_]) _ _ _); k_dflt (refine' mk70_K ?SZ ?BZ ?FZ ?NZ ?RZ ?_; (case SZ => assumption); (case BZ => assumption); (case FZ => k_asm); (case NZ => k_asm); (case RZ => exact Room.less (by assumption) (by decide)); k_whole); intro h' tk' e' t' d' tx' ty' tz' F' N' l1 l2 l3; (try k_sweep)))
  k_with "RaiseMade" => ((k_dflt (refine' raiseMade_ ?XZ ?hZ ?_; (case XZ => k_in); (case hZ => exact News.get (by k_asm) (by k_mem)))))
  k_with "my_enterC" => ((
  (case ho => k_is)
  (case hcd => k_is)
  (case hbind => exact BindsTo.of_eq rfl)
  (case hkind => exact rfl)
  (case hnd => decide +kernel)
  (case hco => exact rfl)
  (case hgen => exact rfl)
  (case hk => exact rfl)))
  k_with "my:k_all" => (exact OffR.all (by assumption))
  k_with "my_sub" => (first | exact List.forall_mem_nil _ | (refine List.forall_mem_cons.mpr ⟨?aZ, ?bZ⟩; (case aZ => k_mem); (case bZ => walk_at "my_sub")) | exact fun _ hq => by ((repeat refine List.Mem.tail _ ?_); exact hq))
  k_with "my_mems" => (first | exact List.forall_mem_nil _ | (refine List.forall_mem_cons.mpr ⟨?aZ, ?bZ⟩; (case aZ => k_mem); (case bZ => walk_at "my_mems")))
  k_with "my_allne" => (((simp only [AllNe, and_true]); (repeat' (refine And.intro ?_ ?_)); all_goals k_ne))
  k_with "my_ro" => (first | exact List.forall_mem_nil _ | (refine List.forall_mem_cons.mpr ⟨?aZ, ?bZ⟩; (case aZ => first | exact fun _ => News.get (by k_asm) (by k_mem) | exact fun hn => absurd (by simp) hn); (case bZ => walk_at "my_ro")) | exact fun _ hq _ => News.get (by k_asm) (by ((repeat refine List.Mem.tail _ ?_); exact hq)))
  k_with "my_bsne" => (first | exact List.forall_mem_nil _ | (refine List.forall_mem_cons.mpr ⟨?aZ, ?bZ⟩; (case aZ => k_ne); (case bZ => walk_at "my_bsne")) | exact OffR.all (by assumption))
  k_with "call ref" => ((k_here; (with_reducible show wpAny _ _ (PySem.call (Value.ref 121) []) _ _ _); k_dflt (refine' store_K ?SZ ?BZ ?FZ ?NZ ?RZ ?_; (case SZ => assumption); (case BZ => assumption); (case FZ => k_asm); (case NZ => k_asm); (case RZ => first | exact Room.less (n := 9) (by assumption) (by decide) | exact Room.deeper (n := 9) (by assumption) (by decide) | exact Room.deeper (n := 8) (Room.deeper (n := 9) (by assumption) (by decide)) (by decide)); k_whole); intro h' tk' x' d' sf' so' k' F' N' hd' lo' a1' a2' a3' b1' b2' b3'; (try dsimp only at N'); (try k_sweep)))
  k_with "call ref" => ((k_here; (with_reducible show wpAny _ _ (PySem.call (Value.ref 142) [_, Value.ref _, _]) _ _ _); k_dflt (refine' unit_K ?SZ ?BZ ?FZ ?NZ ?RZ ?_; (case SZ => assumption); (case BZ => assumption); (case FZ => k_asm); (case NZ => k_asm); (case RZ => first | exact Room.less (n := 9) (by assumption) (by decide) | exact Room.deeper (n := 9) (by assumption) (by decide) | exact Room.deeper (n := 8) (Room.deeper (n := 9) (by assumption) (by decide)) (by decide)); k_whole); intro h' tk' x' d' ui' tp' F' N' a1' a2' b1'; (try dsimp only at N'); (try k_sweep)))
  k_with "call ref" => ((k_here; (with_reducible show wpAny _ _ (PySem.call (Value.ref 100) [Value.str _ _, Value.str _ _, Value.str _ _, Value.int _ _]) _ _ _); k_dflt (refine' file_K ?SZ ?BZ ?FZ ?NZ ?RZ ?_; (case SZ => assumption); (case BZ => assumption); (case FZ => k_asm); (case NZ => k_asm); (case RZ => first | exact Room.less (n := 9) (by assumption) (by decide) | exact Room.deeper (n := 9) (by assumption) (by decide) | exact Room.deeper (n := 8) (Room.deeper (n := 9) (by assumption) (by decide)) (by decide)); k_whole); intro h' tk' x' d' fi' rc' rn' nb' no' F' N' hd' lo' e1' e2' e3' a1' a2' a3' a4' b1' b2' b3' b4' b5' b6'; (try dsimp only at N'); (try k_sweep)))
  k_with "call builtin:sorted" => ((k_here; k_dflt (first
  | (refine' sorted0 ?HZ ?FZ ?NZ ?MZ ?loZ ?DZ ?_; (case HZ => exact rfl); (case FZ => k_asm); (case NZ => k_asm); (case MZ => k_mem); (case DZ => assumption); (case loZ => assumption); intro B' h' tk' F' N' l1; (try k_lt l1); (try k_sweep))
  | (refine' sorted1 ?HZ ?FZ ?NZ ?MZ ?loZ ?DZ ?_; (case HZ => exact rfl); (case FZ => k_asm); (case NZ => k_asm); (case MZ => k_mem); (case DZ => assumption); (case loZ => assumption); intro B' h' tk' t' F' N' l1; (try k_lt l1); (try k_sweep)))))
  k_with "pyIter ref" => ((k_here; (rename List.Perm _ _ => p9); (rename IntsAre _ _ => i9); k_dflt (first | (have e9 := perm0 i9 p9; subst e9; clear p9) | (obtain ⟨t9, e9⟩ := perm1 i9 p9; subst e9; clear p9))))
  k_with "call builtin:str.rstrip" => ((k_here; k_dflt (refine' rstrip_as ?zZ ?eZ ?_; (case zZ => exact fmLen (by assumption)); (case eZ => exact fmStrip (by assumption))); intro _ _))
  k_with "compareOp NotIn str ref" => ((k_here; k_dflt (refine' notinTop ?FZ ?XZ ?lZ ?iZ ?bZ ?_; (case FZ => k_asm); (case XZ => k_asm); (case lZ => k_is); (case iZ => repeat constructor); (case bZ => first | exact fmIn (by assumption) | decide +kernel))))
  k_with "call ref" => ((k_here; (with_reducible show wpAny _ _ (PySem.call (Value.ref 153) [Value.ref _, Value.str _ _, Value.str _ _, Value.ref _]) _ _ _); k_dflt (refine' word_K ?SZ ?BZ ?FZ ?NZ ?RZ ?MZ ?DZ ?loZ ?vZ ?zZ ?sZ ?lZ ?iZ ?bZ ?_; (case SZ => assumption); (case BZ => assumption); (case FZ => k_asm); (case NZ => k_asm); (case RZ => first | exact Room.less (n := 9) (by assumption) (by decide) | exact Room.deeper (n := 9) (by assumption) (by decide) | exact Room.deeper (n := 8) (Room.deeper (n := 9) (by assumption) (by decide)) (by decide)); (case MZ => k_mem); (case DZ => assumption); (case loZ => assumption); (case vZ => exact rfl); (case zZ => first | exact fmLen (by assumption) | decide +kernel); (case sZ => first | exact fmStrip (by assumption) | decide +kernel); (case lZ => k_is); (case iZ => repeat constructor); (case bZ => first | exact fmIn (by assumption) | decide +kernel); k_whole); intro h' tk' t' F' N'; (try dsimp only at N'); (try k_sweep)))
  k_with "my:k_room" => (((try simp only [depth_mark, depth_under_make, depth_under_kw, depth_in1, depth_deeper, depth_caller]); (try dsimp only); omega))
  trivial
section
variable {prog : Program} {w : World} {A : Around} {s : Shared} {base : Heap} {outer : List Env} {mean : ExcName → Option Value} {mg mb : Str → Option Value}
  {R : Result → Shared → Prop} {st uns u du f df rc nb uX : Addr} {uo : Obj} {t1 t2 : Tok} {fm : PySem.Str} {len : Int}
  {ui : UI} {p : Value} {a1 a2 a3 a4 a5 a6 a7 a8 a9 a10 : Tok}
noncomputable def closeE_s : (Rq : Program → World → Shared → Heap → List Env → (ExcName → Option Value) → (Str → Option Value) → (Str → Option Value) → (Result → Shared → Prop) → Addr → Addr → Addr → Addr → Addr → Addr → Addr → Addr → Addr → Obj → Tok → PySem.Str → Int → UI → Value → Tok → Tok → Tok → Tok → Tok → Tok → Tok → Tok → Tok → Tok → Nat → Option (List Code) → Nat → Heap → Addr → Heap → Prop) ×' ((∀ (prog : Program) (w : World) (s : Shared) (base : Heap) (outer : List Env) (mean : ExcName → Option Value) (mg : Str → Option Value) (mb : Str → Option Value) (R : Result → Shared → Prop) (st : Addr) (uns : Addr) (u : Addr) (du : Addr) (f : Addr) (df : Addr) (rc : Addr) (nb : Addr) (uX : Addr) (uo : Obj) (t1 : Tok) (fm : PySem.Str) (len : Int) (ui : UI) (p : Value) (a1 : Tok) (a2 : Tok) (a3 : Tok) (a4 : Tok) (a5 : Tok) (a6 : Tok) (a7 : Tok) (a8 : Tok) (a9 : Tok) (a10 : Tok) (dp : Nat) (gd : Option (List Code)) (un : Nat) (g : Heap) (L' : Addr) (h₁ : Heap), Rq prog w s base outer mean mg mb R st uns u du f df rc nb uX uo t1 fm len ui p a1 a2 a3 a4 a5 a6 a7 a8 a9 a10 dp gd un g L' h₁) → ∀ (A : Around) (prog : Program) (w : World) (s : Shared) (base : Heap) (outer : List Env) (mean : ExcName → Option Value) (mg : Str → Option Value) (mb : Str → Option Value) (R : Result → Shared → Prop) (st : Addr) (uns : Addr) (u : Addr) (du : Addr) (f : Addr) (df : Addr) (rc : Addr) (nb : Addr) (uX : Addr) (uo : Obj) (t1 : Tok) (fm : PySem.Str) (len : Int) (ui : UI) (p : Value) (a1 : Tok) (a2 : Tok) (a3 : Tok) (a4 : Tok) (a5 : Tok) (a6 : Tok) (a7 : Tok) (a8 : Tok) (a9 : Tok) (a10 : Tok) (S : St w mean mg mb base) (B : Below A base outer s.heap) (Rm : Room A 9) (H : Has base outer s.heap [(uns, uo), (u, instObj 142 du), (du, unitD w ui f p), (f, instObj 100 df), (df, fileD w ⟨a1, a2, a3, a4, a5, a6, a7, a8, a9, a10, PySem.Str.ofString "D", fm, len⟩ "DIRECT" rc nb)]) (D : Dist [(uns, uo), (u, instObj 142 du), (du, unitD w ui f p), (f, instObj 100 df), (df, fileD w ⟨a1, a2, a3, a4, a5, a6, a7, a8, a9, a10, PySem.Str.ofString "D", fm, len⟩ "DIRECT" rc nb)]) (huo : uo.IsDictOf (PySem.intKind prog w) [(3, .ref u), (4, .ref uX)]) (lo2 : (uns == sysModules) = false) (k : ∀ h' tk uo', Step [] [uns] s.heap h' → h'.get? uns = some uo' → uo'.IsDictOf (PySem.intKind prog w) [(4, .ref uX)] → R (.ok (.ret .none)) { s with heap := h', toks := tk }), codeAny (model prog w) A (.call (.ref 216) ⟨[.ref st, .ref uns, .int 3 t1, .none], []⟩) R s) := by
  refine ⟨?Rq, fun kHq A prog w s base outer mean mg mb R st uns u du f df rc nb uX uo t1 fm len ui p a1 a2 a3 a4 a5 a6 a7 a8 a9 a10 S B Rm H D huo lo2 k => ?pfq⟩
  case pfq =>
    have hdp := Rm.dep
    have hun := Rm.uni
    obtain ⟨ha, dp, fr, gd, un⟩ := A
    obtain rfl : ha = none := Rm.han
    obtain rfl : fr = some outer := B.stack
    refine' enter [(uns, uo), (u, instObj 142 du), (du, unitD w ui f p), (f, instObj 100 df), (df, fileD w ⟨a1, a2, a3, a4, a5, a6, a7, a8, a9, a10, PySem.Str.ofString "D", fm, len⟩ "DIRECT" rc nb)] S B Rm.d H ?ho ?hcd ?hbind ?hloc ?h ?hco ?hgen ?hk ?hcell
    walk_at "my_enter"
    intro g L' h₁ F N B' X T hold hg hL
    have T0 : KtsTurn (fs outer) g g := KtsTurn.refl
    obtain ⟨D0, D1, D2, D3, D4, _⟩ := D
    revert D4; revert D3; revert D2; revert D1; revert D0; revert T0; revert hL; revert hg; revert hold; revert T; revert X; revert B'; revert N; revert F; revert hun; revert hdp; revert k; revert lo2; revert huo; revert H; revert Rm; revert B; revert S
    exact kHq prog w s base outer mean mg mb R st uns u du f df rc nb uX uo t1 fm len ui p a1 a2 a3 a4 a5 a6 a7 a8 a9 a10 dp gd un g L' h₁
noncomputable def closeE_q (x : ((((((Program × World) × Shared) × (Heap × List Env)) × ((((ExcName → Option Value) × (Str → Option Value)) × (Str → Option Value)) × ((Result → Shared → Prop) × Addr))) × ((((Addr × Addr) × Addr) × (Addr × Addr)) × (((Addr × Addr) × Addr) × (Obj × Tok)))) × (((((PySem.Str × Int) × UI) × (Value × Tok)) × (((Tok × Tok) × Tok) × (Tok × Tok))) × ((((Tok × Tok) × Tok) × (Tok × Nat)) × (((Option (List Code) × Nat) × Heap) × (Addr × Heap)))))) : Prop := closeE_s.1 x.1.1.1.1.1.1 x.1.1.1.1.1.2 x.1.1.1.1.2 x.1.1.1.2.1 x.1.1.1.2.2 x.1.1.2.1.1.1 x.1.1.2.1.1.2 x.1.1.2.1.2 x.1.1.2.2.1 x.1.1.2.2.2 x.1.2.1.1.1.1 x.1.2.1.1.1.2 x.1.2.1.1.2 x.1.2.1.2.1 x.1.2.1.2.2 x.1.2.2.1.1.1 x.1.2.2.1.1.2 x.1.2.2.1.2 x.1.2.2.2.1 x.1.2.2.2.2 x.2.1.1.1.1.1 x.2.1.1.1.1.2 x.2.1.1.1.2 x.2.1.1.2.1 x.2.1.1.2.2 x.2.1.2.1.1.1 x.2.1.2.1.1.2 x.2.1.2.1.2 x.2.1.2.2.1 x.2.1.2.2.2 x.2.2.1.1.1.1 x.2.2.1.1.1.2 x.2.2.1.1.2 x.2.2.1.2.1 x.2.2.1.2.2 x.2.2.2.1.1.1 x.2.2.2.1.1.2 x.2.2.2.1.2 x.2.2.2.2.1 x.2.2.2.2.2
noncomputable def closeE_c := @Classical.epsilon _ ⟨((((((PySem.Challenge.pw_sa0211_01, aWorld 1), {}), ({}, [])), (((fun _ => none, fun _ => none), fun _ => none), (fun _ _ => True, 0))), ((((0, 0), 0), (0, 0)), (((0, 0), 0), (instObj 0 0, 0)))), (((((Str.ofString "", 0), ⟨0, 0, 0, 0, .none, .none⟩), (.none, 0)), (((0, 0), 0), (0, 0))), ((((0, 0), 0), (0, 0)), (((none, 0), {}), (0, {})))))⟩ fun x => ¬ closeE_q x
theorem closeE_k : closeE_q closeE_c := by
  refine (?fq : ∀ (prog : Program) (w : World) (s : Shared) (base : Heap) (outer : List Env) (mean : ExcName → Option Value) (mg : Str → Option Value) (mb : Str → Option Value) (R : Result → Shared → Prop) (st : Addr) (uns : Addr) (u : Addr) (du : Addr) (f : Addr) (df : Addr) (rc : Addr) (nb : Addr) (uX : Addr) (uo : Obj) (t1 : Tok) (fm : PySem.Str) (len : Int) (ui : UI) (p : Value) (a1 : Tok) (a2 : Tok) (a3 : Tok) (a4 : Tok) (a5 : Tok) (a6 : Tok) (a7 : Tok) (a8 : Tok) (a9 : Tok) (a10 : Tok) (dp : Nat) (gd : Option (List Code)) (un : Nat) (g : Heap) (L' : Addr) (h₁ : Heap), closeE_s.1 prog w s base outer mean mg mb R st uns u du f df rc nb uX uo t1 fm len ui p a1 a2 a3 a4 a5 a6 a7 a8 a9 a10 dp gd un g L' h₁) _ _ _ _ _ _ _ _ _ _ _ _ _ _ _ _ _ _ _ _ _ _ _ _ _ _ _ _ _ _ _ _ _ _ _ _ _ _ _ _ 
  intro prog w s base outer mean mg mb R st uns u du f df rc nb uX uo t1 fm len ui p a1 a2 a3 a4 a5 a6 a7 a8 a9 a10 dp gd un g L' h₁ S B Rm H huo lo2 k hdp hun F N B' X T hold hg hL T0 D0 D1 D2 D3 D4
  dsimp only
  try k_fold
  (try dsimp only at hdp hun)
  have hu3 : un + 3 + 3 + 3 + 64 < cLine := by omega
  (try dsimp only [fileD] at N)
  k_steps
  all_goals (try show R (.ok (.ret _)) _)
  (rename Fr _ _ _ _ => F9)
  (rename News _ _ _ _ => N9)
  refine k _ _ _ (step_cut (end0 hold F9) H (by walk_at "my_ro")) (N9.get (by k_mem)) (by assumption)
theorem closeE  (S : St w mean mg mb base) (B : Below A base outer s.heap) (Rm : Room A 9) (H : Has base outer s.heap [(uns, uo), (u, instObj 142 du), (du, unitD w ui f p), (f, instObj 100 df), (df, fileD w ⟨a1, a2, a3, a4, a5, a6, a7, a8, a9, a10, PySem.Str.ofString "D", fm, len⟩ "DIRECT" rc nb)]) (D : Dist [(uns, uo), (u, instObj 142 du), (du, unitD w ui f p), (f, instObj 100 df), (df, fileD w ⟨a1, a2, a3, a4, a5, a6, a7, a8, a9, a10, PySem.Str.ofString "D", fm, len⟩ "DIRECT" rc nb)])
    (huo : uo.IsDictOf (PySem.intKind prog w) [(3, .ref u), (4, .ref uX)]) (lo2 : (uns == sysModules) = false)
    (k : ∀ h' tk uo', Step [] [uns] s.heap h' → h'.get? uns = some uo' → uo'.IsDictOf (PySem.intKind prog w) [(4, .ref uX)] → R (.ok (.ret .none)) { s with heap := h', toks := tk }) :
    codeAny (model prog w) A (.call (.ref 216) ⟨[.ref st, .ref uns, .int 3 t1, .none], []⟩) R s :=
  closeE_s.2 (fun prog w s base outer mean mg mb R st uns u du f df rc nb uX uo t1 fm len ui p a1 a2 a3 a4 a5 a6 a7 a8 a9 a10 dp gd un g L' h₁ => hk_ax (P := closeE_q) _ closeE_k ((((((prog, w), s), (base, outer)), (((mean, mg), mb), (R, st))), ((((uns, u), du), (f, df)), (((rc, nb), uX), (uo, t1)))), (((((fm, len), ui), (p, a1)), (((a2, a3), a4), (a5, a6))), ((((a7, a8), a9), (a10, dp)), (((gd, un), g), (L', h₁)))))) A prog w s base outer mean mg mb R st uns u du f df rc nb uX uo t1 fm len ui p a1 a2 a3 a4 a5 a6 a7 a8 a9 a10 S B Rm H D huo lo2 k
end
end
section
open PySem PySem.W PyProof.Rows PySem.Spec PySem.Calls PyProof.Rows.LCg PySem.SeqAt
theorem line_M33F_1 : True := by
  k_with_none
  w_top off
  k_with "my:k_mem" => (first | exact m0_ | exact m1_ | exact m2_ | exact m3_ | exact m4_ | exact m5_ | exact m6_ | exact m7_ | (refine m8s_ ?_; k_mem))
  k_with "my:k_ne" => (((try dsimp only); first
  | exact AllNe.mem (by assumption) (_, _) (by k_mem)
  | exact Ne.symm (AllNe.mem (by assumption) (_, _) (by k_mem))
  | assumption
  | exact Ne.symm (by assumption)
  | exact Nat.ne_of_lt (lt_at (by assumption) (by k_mem))
  | exact Nat.ne_of_gt (lt_at (by assumption) (by k_mem))
  | (refine neN ?_; omega)))
  k_with "my_enter" => ((
  (case ho => k_is)
  (case hcd => k_is)
  (case hbind => exact BindsTo.of_eq rfl)
  (case hloc => exact locs rfl)
  (case hco => exact rfl)
  (case hgen => exact rfl)
  (case hk => exact rfl)
  (case hcell => decide)))
  k_with "my_dist" => (((simp only [Dist, AllNe, and_true]); (repeat' (refine And.intro ?_ ?_)); all_goals k_ne))
  k_with "my_bs" => (first | exact List.forall_mem_nil _ | (refine List.forall_mem_cons.mpr ⟨⟨⟨_, by k_mem⟩, ⟨by k_ne, by k_ne⟩⟩, ?_⟩; walk_at "my_bs"))
  k_with "my_bs0" => (first | exact List.forall_mem_nil _ | (refine List.forall_mem_cons.mpr ⟨⟨_, by k_mem⟩, ?_⟩; walk_at "my_bs0"))
  k_with "my_ro" => (first | exact List.forall_mem_nil _ | (refine List.forall_mem_cons.mpr ⟨?aZ, ?bZ⟩; (case aZ => first | exact fun _ => News.get (by k_asm) (by k_mem) | exact fun hn => absurd (by simp) hn); (case bZ => walk_at "my_ro")))
  k_with "exec Raise some none" => ((k_here; (with_reducible show wpAny _ _ (exec (Stmt.Raise (some (Expr.Call (Expr.Name (PySem.Str.ofString "IoFault") _) _ _ _)) none _) _) _ _ _); k_dflt (refine' raise_K (C := 51) ?XZ ?KZ ?bZ ?tZ ?hZ ?_; (case XZ => k_asm); (case KZ => k_is); (case bZ => rfl); (case tZ => rfl); (case hZ => first | exact rfl | exact Room.hand (by assumption)); k_whole)))
  k_with "exec Raise some none" => ((k_here; (with_reducible show wpAny _ _ (exec (Stmt.Raise (some (Expr.Call (Expr.Name (PySem.Str.ofString "EndFault") _) _ _ _)) none _) _) _ _ _); k_dflt (refine' raise_K (C := 70) ?XZ ?KZ ?bZ ?tZ ?hZ ?_; (case XZ => k_asm); (case KZ => k_is); (case bZ => rfl); (case tZ => rfl); (case hZ => first | exact rfl | exact Room.hand (by assumption)); k_whole)))
  k_with "call ref" => ((k_here; (with_reducible show wpAny _ _ (PySem.call (Value.ref 51) [_, _]) _ _ _); k_dflt (refine' mk51_K ?SZ ?BZ ?FZ ?NZ ?RZ ?_; (case SZ => assumption); (case BZ => assumption); (case FZ => k_asm); (case NZ => k_asm); (case RZ => exact Room.less (by assumption) (by decide)); k_whole); intro h' tk' e' t' d' tx' ty' F' N' l1 l2 l3; (try k_sweep)))
  k_with "call ref" => ((k_here; (with_reducible show wpAny _ _ (PySem.call (Value.ref 70) [_]) _ _ _); k_dflt (refine' mk70_K ?SZ ?BZ ?FZ ?NZ ?RZ ?_; (case SZ => assumption); (case BZ => assumption); (case FZ => k_asm); (case NZ => k_asm); (case RZ => exact Room.less (by assumption) (by decide)); k_whole); intro h' tk' e' t' d' tx' ty' tz' F' N' l1 l2 l3; (try k_sweep)))
  k_with "RaiseMade" => ((k_dflt (refine' raiseMade_ ?XZ ?hZ ?_; (case XZ => k_in); (case hZ => exact News.get (by k_asm) (by k_mem)))))
  k_with "my_enterC" => ((
  (case ho => k_is)
  (case hcd => k_is)
  (case hbind => exact BindsTo.of_eq rfl)
  (case hkind => exact rfl)
  (case hnd => decide +kernel)
  (case hco => exact rfl)
  (case hgen => exact rfl)
  (case hk => exact rfl)))
  k_with "my:k_all" => (exact OffR.all (by assumption))
  k_with "my_sub" => (first | exact List.forall_mem_nil _ | (refine List.forall_mem_cons.mpr ⟨?aZ, ?bZ⟩; (case aZ => k_mem); (case bZ => walk_at "my_sub")) | exact fun _ hq => by ((repeat refine List.Mem.tail _ ?_); exact hq))
  k_with "my_mems" => (first | exact List.forall_mem_nil _ | (refine List.forall_mem_cons.mpr ⟨?aZ, ?bZ⟩; (case aZ => k_mem); (case bZ => walk_at "my_mems")))
  k_with "my_allne" => (((simp only [AllNe, and_true]); (repeat' (refine And.intro ?_ ?_)); all_goals k_ne))
  k_with "my_ro" => (first | exact List.forall_mem_nil _ | (refine List.forall_mem_cons.mpr ⟨?aZ, ?bZ⟩; (case aZ => first | exact fun _ => News.get (by k_asm) (by k_mem) | exact fun hn => absurd (by simp) hn); (case bZ => walk_at "my_ro")) | exact fun _ hq _ => News.get (by k_asm) (by ((repeat refine List.Mem.tail _ ?_); exact hq)))
  k_with "my_bsne" => (first | exact List.forall_mem_nil _ | (refine List.forall_mem_cons.mpr ⟨?aZ, ?bZ⟩; (case aZ => k_ne); (case bZ => walk_at "my_bsne")) | exact OffR.all (by assumption))
  k_with "call ref" => ((k_here; (with_reducible show wpAny _ _ (PySem.call (Value.ref 121) []) _ _ _); k_dflt (refine' store_K ?SZ ?BZ ?FZ ?NZ ?RZ ?_; (case SZ => assumption); (case BZ => assumption); (case FZ => k_asm); (case NZ => k_asm); (case RZ => first | exact Room.less (n := 9) (by assumption) (by decide) | exact Room.deeper (n := 9) (by assumption) (by decide) | exact Room.deeper (n := 8) (Room.deeper (n := 9) (by assumption) (by decide)) (by decide)); k_whole); intro h' tk' x' d' sf' so' k' F' N' hd' lo' a1' a2' a3' b1' b2' b3'; (try dsimp only at N'); (try k_sweep)))
  k_with "call ref" => ((k_here; (with_reducible show wpAny _ _ (PySem.call (Value.ref 142) [_, Value.ref _, _]) _ _ _); k_dflt (refine' unit_K ?SZ ?BZ ?FZ ?NZ ?RZ ?_; (case SZ => assumption); (case BZ => assumption); (case FZ => k_asm); (case NZ => k_asm); (case RZ => first | exact Room.less (n := 9) (by assumption) (by decide) | exact Room.deeper (n := 9) (by assumption) (by decide) | exact Room.deeper (n := 8) (Room.deeper (n := 9) (by assumption) (by decide)) (by decide)); k_whole); intro h' tk' x' d' ui' tp' F' N' a1' a2' b1'; (try dsimp only at N'); (try k_sweep)))
  k_with "call ref" => ((k_here; (with_reducible show wpAny _ _ (PySem.call (Value.ref 100) [Value.str _ _, Value.str _ _, Value.str _ _, Value.int _ _]) _ _ _); k_dflt (refine' file_K ?SZ ?BZ ?FZ ?NZ ?RZ ?_; (case SZ => assumption); (case BZ => assumption); (case FZ => k_asm); (case NZ => k_asm); (case RZ => first | exact Room.less (n := 9) (by assumption) (by decide) | exact Room.deeper (n := 9) (by assumption) (by decide) | exact Room.deeper (n := 8) (Room.deeper (n := 9) (by assumption) (by decide)) (by decide)); k_whole); intro h' tk' x' d' fi' rc' rn' nb' no' F' N' hd' lo' e1' e2' e3' a1' a2' a3' a4' b1' b2' b3' b4' b5' b6'; (try dsimp only at N'); (try k_sweep)))
  k_with "call builtin:sorted" => ((k_here; k_dflt (first
  | (refine' sorted0 ?HZ ?FZ ?NZ ?MZ ?loZ ?DZ ?_; (case HZ => exact rfl); (case FZ => k_asm); (case NZ => k_asm); (case MZ => k_mem); (case DZ => assumption); (case loZ => assumption); intro B' h' tk' F' N' l1; (try k_lt l1); (try k_sweep))
  | (refine' sorted1 ?HZ ?FZ ?NZ ?MZ ?loZ ?DZ ?_; (case HZ => exact rfl); (case FZ => k_asm); (case NZ => k_asm); (case MZ => k_mem); (case DZ => assumption); (case loZ => assumption); intro B' h' tk' t' F' N' l1; (try k_lt l1); (try k_sweep)))))
  k_with "pyIter ref" => ((k_here; (rename List.Perm _ _ => p9); (rename IntsAre _ _ => i9); k_dflt (first | (have e9 := perm0 i9 p9; subst e9; clear p9) | (obtain ⟨t9, e9⟩ := perm1 i9 p9; subst e9; clear p9))))
  k_with "call builtin:str.rstrip" => ((k_here; k_dflt (refine' rstrip_as ?zZ ?eZ ?_; (case zZ => exact fmLen (by assumption)); (case eZ => exact fmStrip (by assumption))); intro _ _))
  k_with "compareOp NotIn str ref" => ((k_here; k_dflt (refine' notinTop ?FZ ?XZ ?lZ ?iZ ?bZ ?_; (case FZ => k_asm); (case XZ => k_asm); (case lZ => k_is); (case iZ => repeat constructor); (case bZ => first | exact fmIn (by assumption) | decide +kernel))))
  k_with "call ref" => ((k_here; (with_reducible show wpAny _ _ (PySem.call (Value.ref 153) [Value.ref _, Value.str _ _, Value.str _ _, Value.ref _]) _ _ _); k_dflt (refine' word_K ?SZ ?BZ ?FZ ?NZ ?RZ ?MZ ?DZ ?loZ ?vZ ?zZ ?sZ ?lZ ?iZ ?bZ ?_; (case SZ => assumption); (case BZ => assumption); (case FZ => k_asm); (case NZ => k_asm); (case RZ => first | exact Room.less (n := 9) (by assumption) (by decide) | exact Room.deeper (n := 9) (by assumption) (by decide) | exact Room.deeper (n := 8) (Room.deeper (n := 9) (by assumption) (by decide)) (by decide)); (case MZ => k_mem); (case DZ => assumption); (case loZ => assumption); (case vZ => exact rfl); (case zZ => first | exact fmLen (by assumption) | decide +kernel); (case sZ => first | exact fmStrip (by assumption) | decide +kernel); (case lZ => k_is); (case iZ => repeat constructor); (case bZ => first | exact fmIn (by assumption) | decide +kernel); k_whole); intro h' tk' t' F' N'; (try dsimp only at N'); (try k_sweep)))
  k_with "my:k_room" => (((try simp only [depth_mark, depth_under_make, depth_under_kw, depth_in1, depth_deeper, depth_caller]); (try dsimp only); omega))
  trivial
section
variable {prog : Program} {w : World} {A : Around} {s : Shared} {base : Heap} {outer : List Env} {mean : ExcName → Option Value} {mg mb : Str → Option Value}
  {R : Result → Shared → Prop} {st uns u du f df rc nb uX : Addr} {uo : Obj} {t1 t2 : Tok} {fm : PySem.Str} {len : Int}
  {ui : UI} {p : Value} {a1 a2 a3 a4 a5 a6 a7 a8 a9 a10 : Tok}
noncomputable def closeF_s : (Rq : Program → World → Shared → Heap → List Env → (ExcName → Option Value) → (Str → Option Value) → (Str → Option Value) → (Result → Shared → Prop) → Addr → Addr → Addr → Addr → Addr → Addr → Addr → Addr → Obj → Tok → Tok → PySem.Str → Int → UI → Value → Tok → Tok → Tok → Tok → Tok → Tok → Tok → Tok → Tok → Tok → Nat → Option (List Code) → Nat → Heap → Addr → Heap → Prop) ×' ((∀ (prog : Program) (w : World) (s : Shared) (base : Heap) (outer : List Env) (mean : ExcName → Option Value) (mg : Str → Option Value) (mb : Str → Option Value) (R : Result → Shared → Prop) (st : Addr) (uns : Addr) (u : Addr) (du : Addr) (f : Addr) (df : Addr) (rc : Addr) (nb : Addr) (uo : Obj) (t1 : Tok) (t2 : Tok) (fm : PySem.Str) (len : Int) (ui : UI) (p : Value) (a1 : Tok) (a2 : Tok) (a3 : Tok) (a4 : Tok) (a5 : Tok) (a6 : Tok) (a7 : Tok) (a8 : Tok) (a9 : Tok) (a10 : Tok) (dp : Nat) (gd : Option (List Code)) (un : Nat) (g : Heap) (L' : Addr) (h₁ : Heap), Rq prog w s base outer mean mg mb R st uns u du f df rc nb uo t1 t2 fm len ui p a1 a2 a3 a4 a5 a6 a7 a8 a9 a10 dp gd un g L' h₁) → ∀ (A : Around) (prog : Program) (w : World) (s : Shared) (base : Heap) (outer : List Env) (mean : ExcName → Option Value) (mg : Str → Option Value) (mb : Str → Option Value) (R : Result → Shared → Prop) (st : Addr) (uns : Addr) (u : Addr) (du : Addr) (f : Addr) (df : Addr) (rc : Addr) (nb : Addr) (uo : Obj) (t1 : Tok) (t2 : Tok) (fm : PySem.Str) (len : Int) (ui : UI) (p : Value) (a1 : Tok) (a2 : Tok) (a3 : Tok) (a4 : Tok) (a5 : Tok) (a6 : Tok) (a7 : Tok) (a8 : Tok) (a9 : Tok) (a10 : Tok) (S : St w mean mg mb base) (B : Below A base outer s.heap) (Rm : Room A 9) (H : Has base outer s.heap [(uns, uo), (u, instObj 142 du), (du, unitD w ui f p), (f, instObj 100 df), (df, fileD w ⟨a1, a2, a3, a4, a5, a6, a7, a8, a9, a10, PySem.Str.ofString "S", fm, len⟩ "SEQUENTIAL" rc nb)]) (D : Dist [(uns, uo), (u, instObj 142 du), (du, unitD w ui f p), (f, instObj 100 df), (df, fileD w ⟨a1, a2, a3, a4, a5, a6, a7, a8, a9, a10, PySem.Str.ofString "S", fm, len⟩ "SEQUENTIAL" rc nb)]) (huo : uo.IsDictOf (PySem.intKind prog w) [(4, .ref u)]) (lo2 : (uns == sysModules) = false) (k : ∀ h' tk uo', Step [] [uns] s.heap h' → h'.get? uns = some uo' → uo'.IsDictOf (PySem.intKind prog w) [] → R (.ok (.ret .none)) { s with heap := h', toks := tk }), codeAny (model prog w) A (.call (.ref 216) ⟨[.ref st, .ref uns, .int 4 t1, .str (PySem.Str.ofString "KEEP") t2], []⟩) R s) := by
  refine ⟨?Rq, fun kHq A prog w s base outer mean mg mb R st uns u du f df rc nb uo t1 t2 fm len ui p a1 a2 a3 a4 a5 a6 a7 a8 a9 a10 S B Rm H D huo lo2 k => ?pfq⟩
  case pfq =>
    have hdp := Rm.dep
    have hun := Rm.uni
    obtain ⟨ha, dp, fr, gd, un⟩ := A
    obtain rfl : ha = none := Rm.han
    obtain rfl : fr = some outer := B.stack
    refine' enter [(uns, uo), (u, instObj 142 du), (du, unitD w ui f p), (f, instObj 100 df), (df, fileD w ⟨a1, a2, a3, a4, a5, a6, a7, a8, a9, a10, PySem.Str.ofString "S", fm, len⟩ "SEQUENTIAL" rc nb)] S B Rm.d H ?ho ?hcd ?hbind ?hloc ?h ?hco ?hgen ?hk ?hcell
    walk_at "my_enter"
    intro g L' h₁ F N B' X T hold hg hL
    have T0 : KtsTurn (fs outer) g g := KtsTurn.refl
    obtain ⟨D0, D1, D2, D3, D4, _⟩ := D
    revert D4; revert D3; revert D2; revert D1; revert D0; revert T0; revert hL; revert hg; revert hold; revert T; revert X; revert B'; revert N; revert F; revert hun; revert hdp; revert k; revert lo2; revert huo; revert H; revert Rm; revert B; revert S
    exact kHq prog w s base outer mean mg mb R st uns u du f df rc nb uo t1 t2 fm len ui p a1 a2 a3 a4 a5 a6 a7 a8 a9 a10 dp gd un g L' h₁
noncomputable def closeF_q (x : ((((((Program × World) × Shared) × (Heap × List Env)) × ((((ExcName → Option Value) × (Str → Option Value)) × (Str → Option Value)) × ((Result → Shared → Prop) × Addr))) × ((((Addr × Addr) × Addr) × (Addr × Addr)) × (((Addr × Addr) × Obj) × (Tok × Tok)))) × (((((PySem.Str × Int) × UI) × (Value × Tok)) × (((Tok × Tok) × Tok) × (Tok × Tok))) × ((((Tok × Tok) × Tok) × (Tok × Nat)) × (((Option (List Code) × Nat) × Heap) × (Addr × Heap)))))) : Prop := closeF_s.1 x.1.1.1.1.1.1 x.1.1.1.1.1.2 x.1.1.1.1.2 x.1.1.1.2.1 x.1.1.1.2.2 x.1.1.2.1.1.1 x.1.1.2.1.1.2 x.1.1.2.1.2 x.1.1.2.2.1 x.1.1.2.2.2 x.1.2.1.1.1.1 x.1.2.1.1.1.2 x.1.2.1.1.2 x.1.2.1.2.1 x.1.2.1.2.2 x.1.2.2.1.1.1 x.1.2.2.1.1.2 x.1.2.2.1.2 x.1.2.2.2.1 x.1.2.2.2.2 x.2.1.1.1.1.1 x.2.1.1.1.1.2 x.2.1.1.1.2 x.2.1.1.2.1 x.2.1.1.2.2 x.2.1.2.1.1.1 x.2.1.2.1.1.2 x.2.1.2.1.2 x.2.1.2.2.1 x.2.1.2.2.2 x.2.2.1.1.1.1 x.2.2.1.1.1.2 x.2.2.1.1.2 x.2.2.1.2.1 x.2.2.1.2.2 x.2.2.2.1.1.1 x.2.2.2.1.1.2 x.2.2.2.1.2 x.2.2.2.2.1 x.2.2.2.2.2
noncomputable def closeF_c := @Classical.epsilon _ ⟨((((((PySem.Challenge.pw_sa0211_01, aWorld 1), {}), ({}, [])), (((fun _ => none, fun _ => none), fun _ => none), (fun _ _ => True, 0))), ((((0, 0), 0), (0, 0)), (((0, 0), instObj 0 0), (0, 0)))), (((((Str.ofString "", 0), ⟨0, 0, 0, 0, .none, .none⟩), (.none, 0)), (((0, 0), 0), (0, 0))), ((((0, 0), 0), (0, 0)), (((none, 0), {}), (0, {})))))⟩ fun x => ¬ closeF_q x
theorem closeF_k : closeF_q closeF_c := by
  refine (?fq : ∀ (prog : Program) (w : World) (s : Shared) (base : Heap) (outer : List Env) (mean : ExcName → Option Value) (mg : Str → Option Value) (mb : Str → Option Value) (R : Result → Shared → Prop) (st : Addr) (uns : Addr) (u : Addr) (du : Addr) (f : Addr) (df : Addr) (rc : Addr) (nb : Addr) (uo : Obj) (t1 : Tok) (t2 : Tok) (fm : PySem.Str) (len : Int) (ui : UI) (p : Value) (a1 : Tok) (a2 : Tok) (a3 : Tok) (a4 : Tok) (a5 : Tok) (a6 : Tok) (a7 : Tok) (a8 : Tok) (a9 : Tok) (a10 : Tok) (dp : Nat) (gd : Option (List Code)) (un : Nat) (g : Heap) (L' : Addr) (h₁ : Heap), closeF_s.1 prog w s base outer mean mg mb R st uns u du f df rc nb uo t1 t2 fm len ui p a1 a2 a3 a4 a5 a6 a7 a8 a9 a10 dp gd un g L' h₁) _ _ _ _ _ _ _ _ _ _ _ _ _ _ _ _ _ _ _ _ _ _ _ _ _ _ _ _ _ _ _ _ _ _ _ _ _ _ _ _ 
  intro prog w s base outer mean mg mb R st uns u du f df rc nb uo t1 t2 fm len ui p a1 a2 a3 a4 a5 a6 a7 a8 a9 a10 dp gd un g L' h₁ S B Rm H huo lo2 k hdp hun F N B' X T hold hg hL T0 D0 D1 D2 D3 D4
  dsimp only
  try k_fold
  (try dsimp only at hdp hun)
  have hu3 : un + 3 + 3 + 3 + 64 < cLine := by omega
  (try dsimp only [fileD] at N)
  k_steps
  all_goals (try show R (.ok (.ret _)) _)
  (rename Fr _ _ _ _ => F9)
  (rename News _ _ _ _ => N9)
  refine k _ _ _ (step_cut (end0 hold F9) H (by walk_at "my_ro")) (N9.get (by k_mem)) (by assumption)
theorem closeF  (S : St w mean mg mb base) (B : Below A base outer s.heap) (Rm : Room A 9) (H : Has base outer s.heap [(uns, uo), (u, instObj 142 du), (du, unitD w ui f p), (f, instObj 100 df), (df, fileD w ⟨a1, a2, a3, a4, a5, a6, a7, a8, a9, a10, PySem.Str.ofString "S", fm, len⟩ "SEQUENTIAL" rc nb)]) (D : Dist [(uns, uo), (u, instObj 142 du), (du, unitD w ui f p), (f, instObj 100 df), (df, fileD w ⟨a1, a2, a3, a4, a5, a6, a7, a8, a9, a10, PySem.Str.ofString "S", fm, len⟩ "SEQUENTIAL" rc nb)])
    (huo : uo.IsDictOf (PySem.intKind prog w) [(4, .ref u)]) (lo2 : (uns == sysModules) = false)
    (k : ∀ h' tk uo', Step [] [uns] s.heap h' → h'.get? uns = some uo' → uo'.IsDictOf (PySem.intKind prog w) [] → R (.ok (.ret .none)) { s with heap := h', toks := tk }) :
    codeAny (model prog w) A (.call (.ref 216) ⟨[.ref st, .ref uns, .int 4 t1, .str (PySem.Str.ofString "KEEP") t2], []⟩) R s :=
  closeF_s.2 (fun prog w s base outer mean mg mb R st uns u du f df rc nb uo t1 t2 fm len ui p a1 a2 a3 a4 a5 a6 a7 a8 a9 a10 dp gd un g L' h₁ => hk_ax (P := closeF_q) _ closeF_k ((((((prog, w), s), (base, outer)), (((mean, mg), mb), (R, st))), ((((uns, u), du), (f, df)), (((rc, nb), uo), (t1, t2)))), (((((fm, len), ui), (p, a1)), (((a2, a3), a4), (a5, a6))), ((((a7, a8), a9), (a10, dp)), (((gd, un), g), (L', h₁)))))) A prog w s base outer mean mg mb R st uns u du f df rc nb uo t1 t2 fm len ui p a1 a2 a3 a4 a5 a6 a7 a8 a9 a10 S B Rm H D huo lo2 k
end
end
section
open PySem PySem.W PyProof.Rows PySem.Spec PySem.Calls PyProof.Rows.LCg PySem.SeqAt
theorem line_M34_1 : True := by
  k_with_none
  w_top off
  k_with "my:k_mem" => (first | exact m0_ | exact m1_ | exact m2_ | exact m3_ | exact m4_ | exact m5_ | exact m6_ | exact m7_ | (refine m8s_ ?_; k_mem))
  k_with "my:k_ne" => (((try dsimp only); first
  | exact AllNe.mem (by assumption) (_, _) (by k_mem)
  | exact Ne.symm (AllNe.mem (by assumption) (_, _) (by k_mem))
  | assumption
  | exact Ne.symm (by assumption)
  | exact Nat.ne_of_lt (lt_at (by assumption) (by k_mem))
  | exact Nat.ne_of_gt (lt_at (by assumption) (by k_mem))
  | (refine neN ?_; omega)))
  k_with "my_enter" => ((
  (case ho => k_is)
  (case hcd => k_is)
  (case hbind => exact BindsTo.of_eq rfl)
  (case hloc => exact locs rfl)
  (case hco => exact rfl)
  (case hgen => exact rfl)
  (case hk => exact rfl)
  (case hcell => decide)))
  k_with "my_dist" => (((simp only [Dist, AllNe, and_true]); (repeat' (refine And.intro ?_ ?_)); all_goals k_ne))
  k_with "my_bs" => (first | exact List.forall_mem_nil _ | (refine List.forall_mem_cons.mpr ⟨⟨⟨_, by k_mem⟩, ⟨by k_ne, by k_ne⟩⟩, ?_⟩; walk_at "my_bs"))
  k_with "my_bs0" => (first | exact List.forall_mem_nil _ | (refine List.forall_mem_cons.mpr ⟨⟨_, by k_mem⟩, ?_⟩; walk_at "my_bs0"))
  k_with "my_ro" => (first | exact List.forall_mem_nil _ | (refine List.forall_mem_cons.mpr ⟨?aZ, ?bZ⟩; (case aZ => first | exact fun _ => News.get (by k_asm) (by k_mem) | exact fun hn => absurd (by simp) hn); (case bZ => walk_at "my_ro")))
  k_with "exec Raise some none" => ((k_here; (with_reducible show wpAny _ _ (exec (Stmt.Raise (some (Expr.Call (Expr.Name (PySem.Str.ofString "IoFault") _) _ _ _)) none _) _) _ _ _); k_dflt (refine' raise_K (C := 51) ?XZ ?KZ ?bZ ?tZ ?hZ ?_; (case XZ => k_asm); (case KZ => k_is); (case bZ => rfl); (case tZ => rfl); (case hZ => first | exact rfl | exact Room.hand (by assumption)); k_whole)))
  k_with "exec Raise some none" => ((k_here; (with_reducible show wpAny _ _ (exec (Stmt.Raise (some (Expr.Call (Expr.Name (PySem.Str.ofString "EndFault") _) _ _ _)) none _) _) _ _ _); k_dflt (refine' raise_K (C := 70) ?XZ ?KZ ?bZ ?tZ ?hZ ?_; (case XZ => k_asm); (case KZ => k_is); (case bZ => rfl); (case tZ => rfl); (case hZ => first | exact rfl | exact Room.hand (by assumption)); k_whole)))
  k_with "call ref" => ((k_here; (with_reducible show wpAny _ _ (PySem.call (Value.ref 51) [_, _]) _ _ _); k_dflt (refine' mk51_K ?SZ ?BZ ?FZ ?NZ ?RZ ?_; (case SZ => assumption); (case BZ => assumption); (case FZ => k_asm); (case NZ => k_asm); (case RZ => exact Room.less (by assumption) (by decide)); k_whole); intro h' tk' e' t' d' tx' ty' F' N' l1 l2 l3; (try k_sweep)))
  k_with "call ref" => ((k_here; (with_reducible show wpAny _ _ (PySem.call (Value.ref 70) [_]) _ _ _); k_dflt (refine' mk70_K ?SZ ?BZ ?FZ ?NZ ?RZ ?_; (case SZ => assumption); (case BZ => assumption); (case FZ => k_asm); (case NZ => k_asm); (case RZ => exact Room.less (by assumption) (by decide)); k_whole); intro h' tk' e' t' d' tx' ty' tz' F' N' l1 l2 l3; (try k_sweep)))
  k_with "RaiseMade" => ((k_dflt (refine' raiseMade_ ?XZ ?hZ ?_; (case XZ => k_in); (case hZ => exact News.get (by k_asm) (by k_mem)))))
  k_with "my_enterC" => ((
  (case ho => k_is)
  (case hcd => k_is)
  (case hbind => exact BindsTo.of_eq rfl)
  (case hkind => exact rfl)
  (case hnd => decide +kernel)
  (case hco => exact rfl)
  (case hgen => exact rfl)
  (case hk => exact rfl)))
  k_with "my:k_all" => (exact OffR.all (by assumption))
  k_with "my_sub" => (first | exact List.forall_mem_nil _ | (refine List.forall_mem_cons.mpr ⟨?aZ, ?bZ⟩; (case aZ => k_mem); (case bZ => walk_at "my_sub")) | exact fun _ hq => by ((repeat refine List.Mem.tail _ ?_); exact hq))
  k_with "my_mems" => (first | exact List.forall_mem_nil _ | (refine List.forall_mem_cons.mpr ⟨?aZ, ?bZ⟩; (case aZ => k_mem); (case bZ => walk_at "my_mems")))
  k_with "my_allne" => (((simp only [AllNe, and_true]); (repeat' (refine And.intro ?_ ?_)); all_goals k_ne))
  k_with "my_ro" => (first | exact List.forall_mem_nil _ | (refine List.forall_mem_cons.mpr ⟨?aZ, ?bZ⟩; (case aZ => first | exact fun _ => News.get (by k_asm) (by k_mem) | exact fun hn => absurd (by simp) hn); (case bZ => walk_at "my_ro")) | exact fun _ hq _ => News.get (by k_asm) (by ((repeat refine List.Mem.tail _ ?_); exact hq)))
  k_with "my_bsne" => (first | exact List.forall_mem_nil _ | (refine List.forall_mem_cons.mpr ⟨?aZ, ?bZ⟩; (case aZ => k_ne); (case bZ => walk_at "my_bsne")) | exact OffR.all (by assumption))
  k_with "eval ListComp" => (refine halt ?_)
  k_with "exec While Compare" => (refine halt ?_)
  k_with "exec For" => (refine halt ?_)
  k_with "exec For Name Name cons nil" => (refine halt ?_)
  k_with "exec For Name Call cons nil" => (refine halt ?_)
  trivial
section
variable {base g g₀ h h' : Heap} {outer : List Env} {A : Around} {L b d c : Addr} {o o' p p' q q' : Obj} {m : Str → Option Value} {news : List (Addr × Obj)} {g1 g2 g3 : Obj → List (Addr × Obj)}
theorem useB3 (x : Step (L :: fs outer) [b, d, c] h h') (B : Below A base outer g) (F : Fr g L h m) (N : News g L h news) (U : UpdF b o news g1) (U2 : UpdF d p (g1 o') g2) (U3 : UpdF c q (g2 p') g3) (hbd : b ≠ d) (hbc : b ≠ c) (hdc : d ≠ c) (hb : h'.get? b = some o') (hd : h'.get? d = some p') (hc : h'.get? c = some q') :
    ∃ g', KtsTurn (fs outer) g g' ∧ Fr g' L h' m ∧ Below A base outer g' ∧ News g' L h' (g3 q') := by
  have dm : (d, p) ∈ news := by
    rcases upd_mem U _ (upd_in U2) with e | ⟨h, _⟩
    · cases e; exact absurd rfl hbd
    · exact h
  have cm : (c, q) ∈ news := by
    rcases upd_mem U2 _ (upd_in U3) with e | ⟨h, _⟩
    · cases e; exact absurd rfl hdc
    · rcases upd_mem U _ h with e | ⟨h, _⟩
      · cases e; exact absurd rfl hbc
      · exact h
  obtain ⟨g', T, F', B', hl, hk⟩ := useB x B F N fun z hz => by
    rcases List.mem_cons.mp hz with rfl | hz
    · exact ⟨o, upd_in U⟩
    · rcases List.mem_cons.mp hz with rfl | hz
      · exact ⟨p, dm⟩
      · rw [List.mem_singleton.mp hz]; exact ⟨q, cm⟩
  refine ⟨g', T, F', B', hl _ fun y hy => ?_⟩
  rcases upd_mem U3 y hy with rfl | ⟨hy, n3⟩
  · exact ⟨hc, q, cm⟩
  · rcases upd_mem U2 y hy with rfl | ⟨hy, n2⟩
    · exact ⟨hd, p, dm⟩
    · rcases upd_mem U y hy with rfl | ⟨hy, n1⟩
      · exact ⟨hb, o, upd_in U⟩
      · refine ⟨hk y hy fun z => ?_, _, hy⟩
        rcases List.mem_cons.mp z with z | z
        · exact n1 z
        · rcases List.mem_cons.mp z with z | z
          · exact n2 z
          · exact n3 (List.mem_singleton.mp z)
theorem newRecs {rs rs0 l : List (Addr × Obj)} {pf : List (Addr × Obj) → List (Addr × Obj)} (F : Fr g L h m) (hr : ∀ q ∈ rs, h'.get? q.1 = some q.2 ∧ h.get? q.1 = none) {g' : Heap} {fl : List Addr} (T : KtsTurn fl g g') (N : News g' L h' l) (sp : SpR rs0 l pf) : News g' L h' (pf (rs ++ rs0)) := fun q hq => by
  rcases sp.mem q hq with hq | hq
  · exact N q hq
  · rcases List.mem_append.mp hq with hq | hq
    · obtain ⟨x1, x2⟩ := hr q hq
      exact useNew F x2 x1 (fun _ z => nomatch z : News g' L h' []) (T.none_ _ (new_none F x2)) (q.1, q.2) (.head _)
    · refine N q ?_
      have := sp.old q hq
      rw [sp.self] at this
      exact this
theorem offRecs {rs rs0 news : List (Addr × Obj)} (N : News g L h news) (hr : ∀ q ∈ rs, h'.get? q.1 = some q.2 ∧ h.get? q.1 = none) : ∀ a o, (a, o) ∈ news → OffR a rs0 → OffR a (rs ++ rs0) := fun a o hm z => ⟨fun q hq => by
  rcases List.mem_append.mp hq with hq | hq
  · intro e
    have y := (hr q hq).2
    have x := (N _ hm).1
    rw [← e, y] at x
    cases x
  · exact z.all q hq⟩
end
section
variable {prog : Program} {w : World} {A : Around} {s : Shared} {base g : Heap} {outer : List Env} {mean : ExcName → Option Value} {mg mb : Str → Option Value}
  {L a : Addr} {m : Str → Option Value} {news : List (Addr × Obj)} {env : Env} {Q E : Value → Shared → Prop} {u du f df rc nb : Addr} {ui : UI} {fi : FI} {p : Value} {tp tl : Tok} {b r : Addr} {i : Int} {t : Tok} {n rn : Nat} {on : Obj} {vs : List Value} {ns : List Int} {rs0 : List (Addr × Obj)} {g₀ : Heap} {g1 : Obj → List (Addr × Obj)} {G2 : Obj → Obj → List (Addr × Obj)} {G3 : Obj → Obj → Obj → List (Addr × Obj)} {PP : Obj → Obj → Obj → List (Addr × Obj) → List (Addr × Obj)} {len : Int}
theorem direct_K {hpS : Heap} {gnS : Array GenState} {drS : Drawn} {tkS : Nat} {osS : OsState} {pl : Bool} (S : St w mean mg mb base) (B : Below A base outer g) (F : Fr g L hpS m) (N : News g L hpS news) (Rm : Room A 15) (T0 : KtsTurn (fs outer) g₀ g)
    (h1 : ∀ q ∈ [(u, instObj 142 du), (du, unitD w ui f p), (f, instObj 100 df), (df, fileD w fi "DIRECT" rc nb), (nb, on), (b, listOf #[.ref r, .int i t] n)], q ∈ news) (D : Dist [(u, instObj 142 du), (du, unitD w ui f p), (f, instObj 100 df), (df, fileD w fi "DIRECT" rc nb), (nb, on), (b, listOf #[.ref r, .int i t] n)]) (hd : on.IsDictOf (PySem.intKind prog w) []) (lo : (nb == sysModules) = false) (hfl : fi.len = len) (hl0 : 2 ≤ len) (hl8 : len ≤ 8)
    (hr : hpS.IsList r vs.toArray) (hrn : AllNe r [(u, instObj 142 du), (du, unitD w ui f p), (f, instObj 100 df), (df, fileD w fi "DIRECT" rc nb), (nb, on), (b, listOf #[.ref r, .int i t] n)]) (hi : IntsAre vs ns) (hn : ns.length ≤ 60) (h0 : 0 ≤ i)
    (U1 : UpdF du (unitD w ui f p) news g1) (U2 : ∀ o1, UpdF nb on (g1 o1) (G2 o1)) (U3 : ∀ o1 o2, UpdF b (listOf #[.ref r, .int i t] n) (G2 o1 o2) (G3 o1 o2)) (sp : ∀ o1 o2 o3, SpR rs0 (G3 o1 o2 o3) (PP o1 o2 o3)) (n1 : (@Ne Nat du nb)) (n2 : (@Ne Nat du b)) (n3 : (@Ne Nat nb b))
    (kk : Halt (∀ h' tk g' p' o' i' t' n' kvs rs', KtsTurn (fs outer) g₀ g' → Fr g' L h' m → Below A base outer g' → News g' L h' (PP (unitD w ui f p') o' (listOf #[.ref r, .int i' t'] n') rs') → o'.IsDictOf (PySem.intKind prog w) kvs → 0 ≤ i' → (∀ q ∈ rs0, q ∈ rs') → KV rs' kvs → (∀ a o, (a, o) ∈ news → OffR a rs0 → OffR a rs') → Q (.bool true) ⟨h', gnS, drS, tk, osS⟩))
    (hf : env.frame = some L := by rfl) (hk : env.scope.kind = .function := by rfl) :
    wpAny (model prog w) (A.deeper env) (call (.ref 316) [.ref b, .ref u, .bool pl, .int len tl]) Q E ⟨hpS, gnS, drS, tkS, osS⟩ := by
  subst hfl
  have key : ∀ h' tk p' o' i' t' n' kvs rs, Step (fs (env :: outer)) [du, nb, b] hpS h' → h'.get? du = some (unitD w ui f p') → h'.get? nb = some o' → o'.IsDictOf (PySem.intKind prog w) kvs → kvs.length ≤ 10 → h'.get? b = some (listOf #[.ref r, .int i' t'] n') → 0 ≤ i' →
      (∀ q ∈ rs, h'.get? q.1 = some q.2 ∧ hpS.get? q.1 = none) → KV rs kvs → Q (.bool true) ⟨h', gnS, drS, tk, osS⟩ := by
    intro h' tk p' o' i' t' n' kvs rs x1 x2 x3 x4 _ x5 x6 x7 x8
    rw [fsX hf] at x1
    obtain ⟨g', T', F', B', N'⟩ := useB3 x1 B F N U1 (U2 _) (U3 _ _) n1 n2 n3 x2 x3 x5
    exact kk h' tk g' p' o' i' t' n' kvs (rs ++ rs0) (T0.trans T') F' B' (newRecs F x7 T' N' (sp _ _ _)) x4 x6 (fun q hq => List.mem_append_right _ hq) (x8.mono fun q hq => List.mem_append_left _ hq) (offRecs N x7)
  exact wpAny_call (directU S (pushX B F hf hk) (Rm.deeper (by decide)) (has_ofX hf B N h1) D hd lo hl0 hl8 hr hrn hi hn h0 key)
theorem seq_K {hpS : Heap} {gnS : Array GenState} {drS : Drawn} {tkS : Nat} {osS : OsState} {pl : Bool} (S : St w mean mg mb base) (B : Below A base outer g) (F : Fr g L hpS m) (N : News g L hpS news) (Rm : Room A 15) (T0 : KtsTurn (fs outer) g₀ g)
    (h1 : ∀ q ∈ [(u, instObj 142 du), (du, unitD w ui f (.int 0 tp)), (f, instObj 100 df), (df, fileD w fi "SEQUENTIAL" rc nb), (rc, listOf #[] rn), (b, listOf #[.ref r, .int i t] n)], q ∈ news) (D : Dist [(u, instObj 142 du), (du, unitD w ui f (.int 0 tp)), (f, instObj 100 df), (df, fileD w fi "SEQUENTIAL" rc nb), (rc, listOf #[] rn), (b, listOf #[.ref r, .int i t] n)])
    (hr : hpS.IsList r vs.toArray) (hrn : AllNe r [(u, instObj 142 du), (du, unitD w ui f (.int 0 tp)), (f, instObj 100 df), (df, fileD w fi "SEQUENTIAL" rc nb), (rc, listOf #[] rn), (b, listOf #[.ref r, .int i t] n)]) (hi : IntsAre vs ns) (hn : ns.length ≤ 60) (h0 : 0 ≤ i)
    (U1 : UpdF du (unitD w ui f (.int 0 tp)) news g1) (U2 : ∀ o1, UpdF rc (listOf #[] rn) (g1 o1) (G2 o1)) (U3 : ∀ o1 o2, UpdF b (listOf #[.ref r, .int i t] n) (G2 o1 o2) (G3 o1 o2)) (sp : ∀ o1 o2 o3, SpR rs0 (G3 o1 o2 o3) (PP o1 o2 o3)) (n1 : (@Ne Nat du rc)) (n2 : (@Ne Nat du b)) (n3 : (@Ne Nat rc b))
    (kk : Halt (∀ h' tk g' tz xs ds cap i' t' n' rs', KtsTurn (fs outer) g₀ g' → Fr g' L h' m → Below A base outer g' → News g' L h' (PP (unitD w ui f (.int ((xs.length : Int) + 1) tz)) (listOf xs.toArray cap) (listOf #[.ref r, .int i' t'] n') rs') → 0 < xs.length → xs.length ≤ 8 → (∀ q ∈ rs0, q ∈ rs') → RecDs rs' xs ds → (∀ a o, (a, o) ∈ news → OffR a rs0 → OffR a rs') → Q (.bool true) ⟨h', gnS, drS, tk, osS⟩))
    (hf : env.frame = some L := by rfl) (hk : env.scope.kind = .function := by rfl) :
    wpAny (model prog w) (A.deeper env) (call (.ref 333) [.ref b, .ref u, .bool pl]) Q E ⟨hpS, gnS, drS, tkS, osS⟩ := by
  refine wpAny_call (seq S (pushX B F hf hk) (Rm.deeper (by decide)) (has_ofX hf B N h1) D hr hrn hi hn h0 fun h' tk tz xs ds cap rs i' t' n' x1 x2 x3 x4 _ x5 x6 x7 x8 => ?_)
  rw [fsX hf] at x1
  obtain ⟨g', T', F', B', N'⟩ := useB3 x1 B F N U1 (U2 _) (U3 _ _) n1 n2 n3 x2 x3 x4
  exact kk h' tk g' tz xs ds cap i' t' n' (rs ++ rs0) (T0.trans T') F' B' (newRecs F x7 T' N' (sp _ _ _)) x5 x6 (fun q hq => List.mem_append_right _ hq) (x8.mono fun q hq => List.mem_append_left _ hq) (offRecs N x7)
end
section
variable {prog : Program} {w : World} {A : Around} {s : Shared} {base g : Heap} {outer : List Env} {mean : ExcName → Option Value} {mg mb : Str → Option Value}
  {L a : Addr} {m : Str → Option Value} {news : List (Addr × Obj)} {env : Env} {Q E : Value → Shared → Prop} {u du f df rc nb : Addr} {ui : UI} {fi : FI} {p : Value} {pq : Int} {tp tk₁ : Tok} {pa : Addr} {pn : Nat} {v : Value} {k : Int} {g₀ : Heap}
theorem heardRX_K {hpS : Heap} {gnS : Array GenState} {drS : Drawn} {tkS : Nat} {osS : OsState} (S : St w mean mg mb base) (B : Below A base outer g) (F : Fr g L hpS m) (N : News g L hpS news) (Rm : Room A 10) (T0 : KtsTurn (fs outer) g₀ g)
    (hp0 : (pa, listOf #[] pn) ∈ news) (h1 : ∀ q ∈ [(u, instObj 142 du), (du, unitD w ui f p), (f, instObj 100 df), (df, fileD w fi "DIRECT" rc nb)], q ∈ news) (Dp : AllNe pa [(u, instObj 142 du), (du, unitD w ui f p), (f, instObj 100 df), (df, fileD w fi "DIRECT" rc nb)])
    (kk : ∀ h' tk tz g', KtsTurn (fs outer) g₀ g' → Fr g' L h' m → Below A base outer g' → News g' L h' news → Q (.int 16 tz) ⟨h', gnS, drS, tk, osS⟩) (hf : env.frame = some L := by rfl) (hk : env.scope.kind = .function := by rfl) :
    wpAny (model prog w) (A.deeper env) (call (.ref 306) [.ref 230, .ref u, .ref pa]) Q E ⟨hpS, gnS, drS, tkS, osS⟩ := by
  have hc : DeedK prog w base [(u, instObj 142 du), (du, unitD w ui f p), (f, instObj 100 df), (df, fileD w fi "DIRECT" rc nb)] 7 230 [.ref u] (fun new v => new = [] ∧ ∃ t, v = .int 16 t) := by
    intro A' outer' s' R' B Rm H kk kx
    exact readS_acc S B Rm H fun h' tk' e x1 x2 => kx h' tk' e 51 16 [] x1 (fun q hq => nomatch hq) (fun q hq => nomatch hq) x2 (.inl ⟨rfl, fun t => ⟨rfl, t, rfl⟩⟩)
  refine wpAny_call (heard230 (td := 0) (pn := pn) S (pushX B F hf hk) (Rm.deeper (by decide)) (has_ofX hf B N (List.forall_mem_cons.mpr ⟨hp0, h1⟩)) Dp hc fun h' tk v' new x1 x2 x3 x4 => ?_)
  rw [fsX hf] at x1
  obtain ⟨rfl, t, rfl⟩ := x4
  obtain ⟨g', T', F', B', N'⟩ := useB0 x1 B F N
  exact kk h' tk t g' (T0.trans T') F' B' N'
theorem heardWX_K {hpS : Heap} {gnS : Array GenState} {drS : Drawn} {tkS : Nat} {osS : OsState} (S : St w mean mg mb base) (B : Below A base outer g) (F : Fr g L hpS m) (N : News g L hpS news) (Rm : Room A 10) (T0 : KtsTurn (fs outer) g₀ g)
    (hp0 : (pa, listOf #[.int k tk₁, v] pn) ∈ news) (h1 : ∀ q ∈ [(u, instObj 142 du), (du, unitD w ui f (.int pq tp)), (f, instObj 100 df), (df, fileD w fi "SEQUENTIAL" rc nb)], q ∈ news) (Dp : AllNe pa [(u, instObj 142 du), (du, unitD w ui f (.int pq tp)), (f, instObj 100 df), (df, fileD w fi "SEQUENTIAL" rc nb)])
    (kk : ∀ h' tk tz g', KtsTurn (fs outer) g₀ g' → Fr g' L h' m → Below A base outer g' → News g' L h' news → Q (.int 16 tz) ⟨h', gnS, drS, tk, osS⟩) (hf : env.frame = some L := by rfl) (hk : env.scope.kind = .function := by rfl) :
    wpAny (model prog w) (A.deeper env) (call (.ref 306) [.ref 286, .ref u, .ref pa]) Q E ⟨hpS, gnS, drS, tkS, osS⟩ := by
  refine wpAny_call (heard286 (td := 0) (pn := pn) S (pushX B F hf hk) (Rm.deeper (by decide)) (has_ofX hf B N (List.forall_mem_cons.mpr ⟨hp0, h1⟩)) Dp (deed_writeX S) fun h' tk v' new x1 x2 x3 x4 => ?_)
  rw [fsX hf] at x1
  obtain ⟨rfl, t, rfl⟩ := x4
  obtain ⟨g', T', F', B', N'⟩ := useB0 x1 B F N
  exact kk h' tk t g' (T0.trans T') F' B' N'
end
section
theorem allNe_app {x : Addr} : ∀ {l1 l2 : List (Addr × Obj)}, AllNe x l1 → AllNe x l2 → AllNe x (l1 ++ l2)
  | [], _, _, h => h
  | _ :: _, _, ⟨a, r⟩, h => ⟨a, allNe_app r h⟩
end
section
variable {prog : Program} {w : World} {A : Around} {s : Shared} {base g : Heap} {outer : List Env} {mean : ExcName → Option Value} {mg mb : Str → Option Value}
  {st ds sf uns wd : Addr} {so uo wo : Obj} {ks t1 t2 t3 t4 t5 t6 : Tok} {fm : PySem.Str} {len : Int}
  {uX duX fX dfX rcX nbX fD dfD rcD nbD fS dfS rcS nbS u du f df rc nb : Addr} {ui uiX : UI} {p pX : Value} {a1 a2 a3 a4 a5 a6 a7 a8 a9 a10 b1 b2 b3 b4 b5 b6 b7 b8 b9 b10 : Tok} {lenX : Int} {fmX : PySem.Str} {L : Addr} {m : Str → Option Value} {news : List (Addr × Obj)} {env : Env} {Q E : Value → Shared → Prop} {g1 : Obj → List (Addr × Obj)} {G2 : Obj → Obj → List (Addr × Obj)}
theorem openA_K {hpS : Heap} {gnS : Array GenState} {drS : Drawn} {tkS : Nat} {osS : OsState} (S : St w mean mg mb base) (B : Below A base outer g) (F : Fr g L hpS m) (N : News g L hpS news) (Rm : Room A 10) (h1 : ∀ q ∈ [(st, instObj 121 ds), (ds, storeD w ks sf), (sf, so), (uns, uo), (wd, wo)], q ∈ news) (D : Dist [(st, instObj 121 ds), (ds, storeD w ks sf), (sf, so), (uns, uo), (wd, wo)])
    (hso : so.IsDictOf (PySem.strKind prog w) []) (huo : uo.IsDictOf (PySem.intKind prog w) []) (hwo : wo.IsDictOf (PySem.strKind prog w) [(PySem.Str.ofString "FILE", .str (PySem.Str.ofString "D") t1), (PySem.Str.ofString "ACCESS", .str (PySem.Str.ofString "DIRECT") t2), (PySem.Str.ofString "FORM", .str fm t3), (PySem.Str.ofString "RECL", .int len t4)])
    (lo1 : (sf == sysModules) = false) (lo2 : (uns == sysModules) = false) (lo3 : (wd == sysModules) = false) (hfm : fm = PySem.Str.ofString "FORMATTED" ∨ fm = PySem.Str.ofString "UNFORMATTED") (hl1 : 2 ≤ len) (hl2 : len ≤ 4) (U1 : UpdF sf so news g1) (U2 : ∀ o1, UpdF uns uo (g1 o1) (G2 o1)) (n1 : (@Ne Nat sf uns))
    (kk : Halt (∀ h' tk u du ui f df fi rc rn nb no so' uo' tp, Fr g L h' m → News g L h' ((u, instObj 142 du) :: (du, unitD w ui f (.int 0 tp)) :: (f, instObj 100 df) :: (df, fileD w fi "DIRECT" rc nb) :: (rc, listOf #[] rn) :: (nb, no) :: G2 so' uo') → no.IsDictOf (PySem.intKind prog w) [] → (nb == sysModules) = false → so'.IsDictOf (PySem.strKind prog w) [(PySem.Str.ofString "D", .ref f)] → uo'.IsDictOf (PySem.intKind prog w) [(3, .ref u)] → fi.nm = PySem.Str.ofString "D" → fi.fm = fm → fi.len = len → AllNe u ((du, unitD w ui f (.int 0 tp)) :: (f, instObj 100 df) :: (df, fileD w fi "DIRECT" rc nb) :: (rc, listOf #[] rn) :: (nb, no) :: news) → AllNe du ((f, instObj 100 df) :: (df, fileD w fi "DIRECT" rc nb) :: (rc, listOf #[] rn) :: (nb, no) :: news) → AllNe f ((df, fileD w fi "DIRECT" rc nb) :: (rc, listOf #[] rn) :: (nb, no) :: news) → AllNe df ((rc, listOf #[] rn) :: (nb, no) :: news) → AllNe rc ((nb, no) :: news) → AllNe nb (news) → Q (.ref u) ⟨h', gnS, drS, tk, osS⟩))
    (hf : env.frame = some L := by rfl) (hk : env.scope.kind = .function := by rfl) :
    wpAny (model prog w) (A.deeper env) (call (.ref 209) [.ref st, .ref uns, .int 3 t5, .ref wd]) Q E ⟨hpS, gnS, drS, tkS, osS⟩ := by
  refine wpAny_call (openA S (pushX B F hf hk) (Rm.deeper (by decide)) (has_ofX hf B N h1) D hso huo hwo lo1 lo2 lo3 hfm hl1 hl2 fun h' tk u du ui f df fi rc rn nb no so' uo' tp x0 x1 x2 x3 x4 x5 x6 x7 x8 x9 x10 x11 x12 x13 x14 x15 y1 y2 y3 y4 y5 y6 yD => ?_)
  obtain ⟨F', N'⟩ := use02 F N U1 (U2 _) n1 x0 x9 x10
  exact kk h' tk u du ui f df fi rc rn nb no so' uo' tp F' (useNew F y1 x1 (useNew F y2 x2 (useNew F y3 x3 (useNew F y4 x4 (useNew F y5 x5 (useNew F y6 x6 N' (new_none F y6)) (new_none F y5)) (new_none F y4)) (new_none F y3)) (new_none F y2)) (new_none F y1)) x7 x8 x11 x12 x13 x14 x15 (allNe_app yD.1 (new_ne N y1)) (allNe_app yD.2.1 (new_ne N y2)) (allNe_app yD.2.2.1 (new_ne N y3)) (allNe_app yD.2.2.2.1 (new_ne N y4)) (allNe_app yD.2.2.2.2.1 (new_ne N y5)) (new_ne N y6)
theorem openB_K {hpS : Heap} {gnS : Array GenState} {drS : Drawn} {tkS : Nat} {osS : OsState} (S : St w mean mg mb base) (B : Below A base outer g) (F : Fr g L hpS m) (N : News g L hpS news) (Rm : Room A 10) (h1 : ∀ q ∈ [(st, instObj 121 ds), (ds, storeD w ks sf), (sf, so), (uns, uo), (wd, wo), (uX, instObj 142 duX), (duX, unitD w uiX fD pX), (fD, instObj 100 dfD), (dfD, fileD w ⟨a1, a2, a3, a4, a5, a6, a7, a8, a9, a10, PySem.Str.ofString "D", fm, len⟩ "DIRECT" rcD nbD)], q ∈ news) (D : Dist [(st, instObj 121 ds), (ds, storeD w ks sf), (sf, so), (uns, uo), (wd, wo), (uX, instObj 142 duX), (duX, unitD w uiX fD pX), (fD, instObj 100 dfD), (dfD, fileD w ⟨a1, a2, a3, a4, a5, a6, a7, a8, a9, a10, PySem.Str.ofString "D", fm, len⟩ "DIRECT" rcD nbD)])
    (hso : so.IsDictOf (PySem.strKind prog w) [(PySem.Str.ofString "D", .ref fD)]) (huo : uo.IsDictOf (PySem.intKind prog w) [(3, .ref uX)]) (hwo : wo.IsDictOf (PySem.strKind prog w) [(PySem.Str.ofString "FILE", .str (PySem.Str.ofString "S") t1), (PySem.Str.ofString "FORM", .str fm t3)])
    (lo1 : (sf == sysModules) = false) (lo2 : (uns == sysModules) = false) (lo3 : (wd == sysModules) = false) (hfm : fm = PySem.Str.ofString "FORMATTED" ∨ fm = PySem.Str.ofString "UNFORMATTED") (hl1 : 2 ≤ len) (hl2 : len ≤ 4) (U1 : UpdF sf so news g1) (U2 : ∀ o1, UpdF uns uo (g1 o1) (G2 o1)) (n1 : (@Ne Nat sf uns))
    (kk : Halt (∀ h' tk u du ui f df fi rc rn nb no so' uo' tp, Fr g L h' m → News g L h' ((u, instObj 142 du) :: (du, unitD w ui f (.int 0 tp)) :: (f, instObj 100 df) :: (df, fileD w fi "SEQUENTIAL" rc nb) :: (rc, listOf #[] rn) :: (nb, no) :: G2 so' uo') → no.IsDictOf (PySem.intKind prog w) [] → (nb == sysModules) = false → so'.IsDictOf (PySem.strKind prog w) [(PySem.Str.ofString "D", .ref fD), (PySem.Str.ofString "S", .ref f)] → uo'.IsDictOf (PySem.intKind prog w) [(3, .ref uX), (4, .ref u)] → fi.nm = PySem.Str.ofString "S" → fi.fm = fm → fi.len = 0 → AllNe u ((du, unitD w ui f (.int 0 tp)) :: (f, instObj 100 df) :: (df, fileD w fi "SEQUENTIAL" rc nb) :: (rc, listOf #[] rn) :: (nb, no) :: news) → AllNe du ((f, instObj 100 df) :: (df, fileD w fi "SEQUENTIAL" rc nb) :: (rc, listOf #[] rn) :: (nb, no) :: news) → AllNe f ((df, fileD w fi "SEQUENTIAL" rc nb) :: (rc, listOf #[] rn) :: (nb, no) :: news) → AllNe df ((rc, listOf #[] rn) :: (nb, no) :: news) → AllNe rc ((nb, no) :: news) → AllNe nb (news) → Q (.ref u) ⟨h', gnS, drS, tk, osS⟩))
    (hf : env.frame = some L := by rfl) (hk : env.scope.kind = .function := by rfl) :
    wpAny (model prog w) (A.deeper env) (call (.ref 209) [.ref st, .ref uns, .int 4 t5, .ref wd]) Q E ⟨hpS, gnS, drS, tkS, osS⟩ := by
  refine wpAny_call (openB S (pushX B F hf hk) (Rm.deeper (by decide)) (has_ofX hf B N h1) D hso huo hwo lo1 lo2 lo3 hfm hl1 hl2 fun h' tk u du ui f df fi rc rn nb no so' uo' tp x0 x1 x2 x3 x4 x5 x6 x7 x8 x9 x10 x11 x12 x13 x14 x15 y1 y2 y3 y4 y5 y6 yD => ?_)
  obtain ⟨F', N'⟩ := use02 F N U1 (U2 _) n1 x0 x9 x10
  exact kk h' tk u du ui f df fi rc rn nb no so' uo' tp F' (useNew F y1 x1 (useNew F y2 x2 (useNew F y3 x3 (useNew F y4 x4 (useNew F y5 x5 (useNew F y6 x6 N' (new_none F y6)) (new_none F y5)) (new_none F y4)) (new_none F y3)) (new_none F y2)) (new_none F y1)) x7 x8 x11 x12 x13 x14 x15 (allNe_app yD.1 (new_ne N y1)) (allNe_app yD.2.1 (new_ne N y2)) (allNe_app yD.2.2.1 (new_ne N y3)) (allNe_app yD.2.2.2.1 (new_ne N y4)) (allNe_app yD.2.2.2.2.1 (new_ne N y5)) (new_ne N y6)
theorem openC_K {hpS : Heap} {gnS : Array GenState} {drS : Drawn} {tkS : Nat} {osS : OsState} (S : St w mean mg mb base) (B : Below A base outer g) (F : Fr g L hpS m) (N : News g L hpS news) (Rm : Room A 10) (h1 : ∀ q ∈ [(st, instObj 121 ds), (ds, storeD w ks sf), (sf, so), (uns, uo), (wd, wo), (fS, instObj 100 dfS), (dfS, fileD w ⟨b1, b2, b3, b4, b5, b6, b7, b8, b9, b10, PySem.Str.ofString "S", fm, 0⟩ "SEQUENTIAL" rcS nbS)], q ∈ news) (D : Dist [(st, instObj 121 ds), (ds, storeD w ks sf), (sf, so), (uns, uo), (wd, wo), (fS, instObj 100 dfS), (dfS, fileD w ⟨b1, b2, b3, b4, b5, b6, b7, b8, b9, b10, PySem.Str.ofString "S", fm, 0⟩ "SEQUENTIAL" rcS nbS)])
    (hso : so.IsDictOf (PySem.strKind prog w) [(PySem.Str.ofString "D", .ref fD), (PySem.Str.ofString "S", .ref fS)]) (huo : uo.IsDictOf (PySem.intKind prog w) []) (hwo : wo.IsDictOf (PySem.strKind prog w) [(PySem.Str.ofString "FILE", .str (PySem.Str.ofString "S") t1), (PySem.Str.ofString "FORM", .str fm t3), (PySem.Str.ofString "STATUS", .str (PySem.Str.ofString "OLD") t6)])
    (lo1 : (sf == sysModules) = false) (lo2 : (uns == sysModules) = false) (lo3 : (wd == sysModules) = false) (hfm : fm = PySem.Str.ofString "FORMATTED" ∨ fm = PySem.Str.ofString "UNFORMATTED") (hl1 : 2 ≤ len) (hl2 : len ≤ 4) (U1 : UpdF uns uo news g1)
    (kk : Halt (∀ h' tk u du ui uo' tp, Fr g L h' m → News g L h' ((u, instObj 142 du) :: (du, unitD w ui fS (.int 0 tp)) :: g1 uo') → uo'.IsDictOf (PySem.intKind prog w) [(7, .ref u)] → AllNe u ((du, unitD w ui fS (.int 0 tp)) :: news) → AllNe du news → Q (.ref u) ⟨h', gnS, drS, tk, osS⟩))
    (hf : env.frame = some L := by rfl) (hk : env.scope.kind = .function := by rfl) :
    wpAny (model prog w) (A.deeper env) (call (.ref 209) [.ref st, .ref uns, .int 7 t5, .ref wd]) Q E ⟨hpS, gnS, drS, tkS, osS⟩ := by
  refine wpAny_call (openC S (pushX B F hf hk) (Rm.deeper (by decide)) (has_ofX hf B N h1) D hso huo hwo lo1 lo2 lo3 hfm hl1 hl2 fun h' tk u du ui uo' tp x0 x1 x2 x3 x4 y1 y2 y3 => ?_)
  obtain ⟨F', N'⟩ := use0 F N U1 x0 x3
  exact kk h' tk u du ui uo' tp F' (useNew F y1 x1 (useNew F y2 x2 N' (new_none F y2)) (new_none F y1)) x4 ⟨Ne.symm y3, new_ne N y1⟩ (new_ne N y2)
theorem openD_K {hpS : Heap} {gnS : Array GenState} {drS : Drawn} {tkS : Nat} {osS : OsState} (S : St w mean mg mb base) (B : Below A base outer g) (F : Fr g L hpS m) (N : News g L hpS news) (Rm : Room A 10) (h1 : ∀ q ∈ [(st, instObj 121 ds), (ds, storeD w ks sf), (sf, so), (uns, uo), (wd, wo), (uX, instObj 142 duX), (duX, unitD w uiX fS pX), (fS, instObj 100 dfS), (dfS, fileD w ⟨b1, b2, b3, b4, b5, b6, b7, b8, b9, b10, PySem.Str.ofString "S", fm, 0⟩ "SEQUENTIAL" rcS nbS), (fD, instObj 100 dfD), (dfD, fileD w ⟨a1, a2, a3, a4, a5, a6, a7, a8, a9, a10, PySem.Str.ofString "D", fm, len⟩ "DIRECT" rcD nbD)], q ∈ news) (D : Dist [(st, instObj 121 ds), (ds, storeD w ks sf), (sf, so), (uns, uo), (wd, wo), (uX, instObj 142 duX), (duX, unitD w uiX fS pX), (fS, instObj 100 dfS), (dfS, fileD w ⟨b1, b2, b3, b4, b5, b6, b7, b8, b9, b10, PySem.Str.ofString "S", fm, 0⟩ "SEQUENTIAL" rcS nbS), (fD, instObj 100 dfD), (dfD, fileD w ⟨a1, a2, a3, a4, a5, a6, a7, a8, a9, a10, PySem.Str.ofString "D", fm, len⟩ "DIRECT" rcD nbD)])
    (hso : so.IsDictOf (PySem.strKind prog w) [(PySem.Str.ofString "D", .ref fD), (PySem.Str.ofString "S", .ref fS)]) (huo : uo.IsDictOf (PySem.intKind prog w) [(7, .ref uX)]) (hwo : wo.IsDictOf (PySem.strKind prog w) [(PySem.Str.ofString "FILE", .str (PySem.Str.ofString "D") t1), (PySem.Str.ofString "ACCESS", .str (PySem.Str.ofString "DIRECT") t2), (PySem.Str.ofString "FORM", .str fm t3), (PySem.Str.ofString "RECL", .int len t4), (PySem.Str.ofString "STATUS", .str (PySem.Str.ofString "OLD") t6)])
    (lo1 : (sf == sysModules) = false) (lo2 : (uns == sysModules) = false) (lo3 : (wd == sysModules) = false) (hfm : fm = PySem.Str.ofString "FORMATTED" ∨ fm = PySem.Str.ofString "UNFORMATTED") (hl1 : 2 ≤ len) (hl2 : len ≤ 4) (U1 : UpdF uns uo news g1)
    (kk : Halt (∀ h' tk u du ui uo' tp, Fr g L h' m → News g L h' ((u, instObj 142 du) :: (du, unitD w ui fD (.int 0 tp)) :: g1 uo') → uo'.IsDictOf (PySem.intKind prog w) [(7, .ref uX), (4, .ref u)] → AllNe u ((du, unitD w ui fD (.int 0 tp)) :: news) → AllNe du news → Q (.ref u) ⟨h', gnS, drS, tk, osS⟩))
    (hf : env.frame = some L := by rfl) (hk : env.scope.kind = .function := by rfl) :
    wpAny (model prog w) (A.deeper env) (call (.ref 209) [.ref st, .ref uns, .int 4 t5, .ref wd]) Q E ⟨hpS, gnS, drS, tkS, osS⟩ := by
  refine wpAny_call (openD S (pushX B F hf hk) (Rm.deeper (by decide)) (has_ofX hf B N h1) D hso huo hwo lo1 lo2 lo3 hfm hl1 hl2 fun h' tk u du ui uo' tp x0 x1 x2 x3 x4 y1 y2 y3 => ?_)
  obtain ⟨F', N'⟩ := use0 F N U1 x0 x3
  exact kk h' tk u du ui uo' tp F' (useNew F y1 x1 (useNew F y2 x2 N' (new_none F y2)) (new_none F y1)) x4 ⟨Ne.symm y3, new_ne N y1⟩ (new_ne N y2)
theorem closeE_K {hpS : Heap} {gnS : Array GenState} {drS : Drawn} {tkS : Nat} {osS : OsState} (S : St w mean mg mb base) (B : Below A base outer g) (F : Fr g L hpS m) (N : News g L hpS news) (Rm : Room A 10) (h1 : ∀ q ∈ [(uns, uo), (u, instObj 142 du), (du, unitD w ui f p), (f, instObj 100 df), (df, fileD w ⟨a1, a2, a3, a4, a5, a6, a7, a8, a9, a10, PySem.Str.ofString "D", fm, len⟩ "DIRECT" rc nb)], q ∈ news) (D : Dist [(uns, uo), (u, instObj 142 du), (du, unitD w ui f p), (f, instObj 100 df), (df, fileD w ⟨a1, a2, a3, a4, a5, a6, a7, a8, a9, a10, PySem.Str.ofString "D", fm, len⟩ "DIRECT" rc nb)])
    (huo : uo.IsDictOf (PySem.intKind prog w) [(3, .ref u), (4, .ref uX)]) (lo2 : (uns == sysModules) = false) (U1 : UpdF uns uo news g1)
    (kk : Halt (∀ h' tk uo', Fr g L h' m → News g L h' (g1 uo') → uo'.IsDictOf (PySem.intKind prog w) [(4, .ref uX)] → Q .none ⟨h', gnS, drS, tk, osS⟩))
    (hf : env.frame = some L := by rfl) (hk : env.scope.kind = .function := by rfl) :
    wpAny (model prog w) (A.deeper env) (call (.ref 216) [.ref st, .ref uns, .int 3 t1, .none]) Q E ⟨hpS, gnS, drS, tkS, osS⟩ := by
  refine wpAny_call (closeE S (pushX B F hf hk) (Rm.deeper (by decide)) (has_ofX hf B N h1) D huo lo2 fun h' tk uo' x0 x1 x2 => ?_)
  obtain ⟨F', N'⟩ := use0 F N U1 x0 x1
  exact kk h' tk uo' F' N' x2
theorem closeF_K {hpS : Heap} {gnS : Array GenState} {drS : Drawn} {tkS : Nat} {osS : OsState} (S : St w mean mg mb base) (B : Below A base outer g) (F : Fr g L hpS m) (N : News g L hpS news) (Rm : Room A 10) (h1 : ∀ q ∈ [(uns, uo), (u, instObj 142 du), (du, unitD w ui f p), (f, instObj 100 df), (df, fileD w ⟨a1, a2, a3, a4, a5, a6, a7, a8, a9, a10, PySem.Str.ofString "S", fm, len⟩ "SEQUENTIAL" rc nb)], q ∈ news) (D : Dist [(uns, uo), (u, instObj 142 du), (du, unitD w ui f p), (f, instObj 100 df), (df, fileD w ⟨a1, a2, a3, a4, a5, a6, a7, a8, a9, a10, PySem.Str.ofString "S", fm, len⟩ "SEQUENTIAL" rc nb)])
    (huo : uo.IsDictOf (PySem.intKind prog w) [(4, .ref u)]) (lo2 : (uns == sysModules) = false) (U1 : UpdF uns uo news g1)
    (kk : Halt (∀ h' tk uo', Fr g L h' m → News g L h' (g1 uo') → uo'.IsDictOf (PySem.intKind prog w) [] → Q .none ⟨h', gnS, drS, tk, osS⟩))
    (hf : env.frame = some L := by rfl) (hk : env.scope.kind = .function := by rfl) :
    wpAny (model prog w) (A.deeper env) (call (.ref 216) [.ref st, .ref uns, .int 4 t1, .str (PySem.Str.ofString "KEEP") t2]) Q E ⟨hpS, gnS, drS, tkS, osS⟩ := by
  refine wpAny_call (closeF S (pushX B F hf hk) (Rm.deeper (by decide)) (has_ofX hf B N h1) D huo lo2 fun h' tk uo' x0 x1 x2 => ?_)
  obtain ⟨F', N'⟩ := use0 F N U1 x0 x1
  exact kk h' tk uo' F' N' x2
end
end
end
section
open PySem PySem.W PyProof.Rows PySem.Spec PySem.Calls PyProof.Rows.LCg PySem.SeqAt
theorem hu_law (env : Env) : (callerA.deeper env).units + 64 < cLine := by
  show callerA.units + 3 + 64 < cLine
  decide
structure Offs (rs L : List (Addr × Obj)) : Prop where
  at_ : ∀ a o, (a, o) ∈ L → OffR a rs
theorem Offs.new {rs L l : List (Addr × Obj)} {a : Addr} (x : Offs rs L) (h : AllNe a l) (sp : ∀ q ∈ rs, q ∈ l) : Offs rs ((a, instObj 0 0) :: L) := ⟨fun b o hm => by
  rcases List.mem_cons.mp hm with e | hm
  · cases e
    exact ⟨fun q hq => AllNe.mem h q (sp q hq)⟩
  · exact x.at_ b o hm⟩
theorem Offs.turn {rs rs' L news : List (Addr × Obj)} (ht : ∀ a o, (a, o) ∈ news → OffR a rs → OffR a rs') (hs : ∀ q ∈ L, ∃ o, (q.1, o) ∈ news) (x : Offs rs L) : Offs rs' L := ⟨fun a o hm => by
  obtain ⟨o', h⟩ := hs _ hm
  exact ht a o' h (x.at_ a o hm)⟩
theorem recAt {g h : Heap} {L : Addr} {news rs : List (Addr × Obj)} {v : Value} {d : PyData} (_ : News g L h news) (w : RecD rs v d) (hs : ∀ q ∈ rs, q ∈ news) : RecD news v d := w.mono hs
theorem four {rs : List (Addr × Obj)} {r : Addr} {n : Nat} {v1 v2 v3 v4 : Value} {d1 d2 d3 d4 : PyData} (h1 : RecD rs v1 d1) (h2 : RecD rs v2 d2) (h3 : RecD rs v3 d3) (h4 : RecD rs v4 d4) (p1 : d1.depth ≤ 8) (p2 : d2.depth ≤ 8) (p3 : d3.depth ≤ 8) (p4 : d4.depth ≤ 8) {rs' : List (Addr × Obj)} (hs : ∀ q ∈ rs, q ∈ rs') (hm : (r, listOf #[v1, v2, v3, v4] n) ∈ rs') : RecD rs' (.ref r) (.list [d1, d2, d3, d4]) := by
  refine ⟨?_, fun hp hh => ?_⟩
  · unfold shaped
    rw [Bool.and_eq_true]
    exact ⟨by simp [PyData.canLay0, PyData.canLayAll0, canLay_of_shaped h1.1, canLay_of_shaped h2.1, canLay_of_shaped h3.1, canLay_of_shaped h4.1], by rw [decide_eq_true_eq]; simp only [PyData.depth, PyData.depthAll]; omega⟩
  · obtain ⟨_, r1⟩ := h1.2 hp fun q hq => hh q (hs q hq)
    obtain ⟨_, r2⟩ := h2.2 hp fun q hq => hh q (hs q hq)
    obtain ⟨_, r3⟩ := h3.2 hp fun q hq => hh q (hs q hq)
    obtain ⟨_, r4⟩ := h4.2 hp fun q hq => hh q (hs q hq)
    exact ⟨_, .list (hh _ hm) rfl rfl (.cons r1 (.cons r2 (.cons r3 (.cons r4 .nil))))⟩
theorem num4 {rs : List (Addr × Obj)} {kvs : List (Int × Value)} {v1 v2 v3 v4 y1 y2 y3 y4 : Value} (x : KV rs kvs) (a1 : NumV kvs 1 v1) (a2 : NumV kvs 2 v2) (a3 : NumV kvs 3 v3) (a4 : NumV kvs 4 v4) (b1 : NumV kvs 1 y1) (b2 : NumV kvs 2 y2) (b3 : NumV kvs 3 y3) (b4 : NumV kvs 4 y4) :
    ∃ d, (∀ rs' r n, (∀ q ∈ rs, q ∈ rs') → (r, listOf #[v1, v2, v3, v4] n) ∈ rs' → RecD rs' (.ref r) d) ∧ ∀ rs' r n, (∀ q ∈ rs, q ∈ rs') → (r, listOf #[y1, y2, y3, y4] n) ∈ rs' → RecD rs' (.ref r) d := by
  obtain ⟨d1, h1, k1, p1⟩ := numV_same8 x a1 b1
  obtain ⟨d2, h2, k2, p2⟩ := numV_same8 x a2 b2
  obtain ⟨d3, h3, k3, p3⟩ := numV_same8 x a3 b3
  obtain ⟨d4, h4, k4, p4⟩ := numV_same8 x a4 b4
  exact ⟨_, fun rs' r n hs hm => four h1 h2 h3 h4 p1 p2 p3 p4 hs hm, fun rs' r n hs hm => four k1 k2 k3 k4 p1 p2 p3 p4 hs hm⟩
theorem recHs {g h : Heap} {L : Addr} {news rs : List (Addr × Obj)} (_ : News g L h news) (hs : ∀ q ∈ rs, q ∈ news) : ∀ q ∈ rs, q ∈ news := hs
theorem recHm {g h : Heap} {L : Addr} {news : List (Addr × Obj)} {q : Addr × Obj} (_ : News g L h news) (hs : q ∈ news) : q ∈ news := hs
theorem fr_start {g g' h : Heap} {L : Addr} {m : Str → Option Value} (T : KtsTurn (fs []) g g') (F : Fr g' L h m) : Fr g L h m := ⟨F.ns, fun b o e => F.keep b o (T.other b o e (fun q => nomatch q)), by have := F.above; rw [T.size] at this; exact this⟩
theorem law_post (args : List WData) : (PySem.Challenge.rw_sa0211_01.row.claim).post args (.bool true) args = true := by
  with_unfolding_all rfl
theorem newsOf {g h : Heap} {L : Addr} {news : List (Addr × Obj)} (_ : News g L h news) : ∃ l, l = news := ⟨news, rfl⟩
theorem recPairA' {rs rs' : List (Addr × Obj)} {T D : Addr} {vs : List Value} {ds : List PyData} {n : Nat} {c : Int} {t : Tok} (x : RecDs rs vs ds) (hT : (T, tupO [.ref D, .int c t]) ∈ rs') (hD : (D, listOf vs.toArray n) ∈ rs') (hs : ∀ q ∈ rs, q ∈ rs') : RecD rs' (.ref T) (.tuple [.list ds, .int c]) :=
  have z := recList (x.mono hs) hD
  recPair z.1 z.2 hT
theorem t_at {h : Heap} {K : Frag} (_ : K.In h) : KtsTurn (fs []) h h := KtsTurn.refl
theorem b_at {h : Heap} {K : Frag} (_ : K.In h) (B : Below callerA h [] h) : Below callerA h [] h := B
theorem ite_form {prog : Program} {w : World} {A : Around} {E : Value → Shared → Prop} {s : Shared} {env : Env} {b : Bool} {p1 p2 : Nat} {q1 q2 : Pos} {c1 c2 : Const} {Q : Value → Shared → Prop} (h : ∀ fm t tk, (fm = PySem.Str.ofString "FORMATTED" ∨ fm = PySem.Str.ofString "UNFORMATTED") → Q (.str fm t) { s with toks := tk })
    (e1 : c1 = .str (PySem.Str.ofString "UNFORMATTED")) (e2 : c2 = .str (PySem.Str.ofString "FORMATTED")) :
    if b = true then wpAny (model prog w) A (eval (.Constant c1 p1 q1) env) Q E s else wpAny (model prog w) A (eval (.Constant c2 p2 q2) env) Q E s := by
  subst e1 e2
  split
  · k_steps
    exact h _ _ _ (.inr rfl)
  · k_steps
    exact h _ _ _ (.inl rfl)
theorem line_M35_1 : True := by
  k_with_none
  w_top off
  k_with "my:k_ne" => (((try dsimp only); first
  | exact AllNe.mem (by assumption) (_, _) (by k_mem)
  | exact Ne.symm (AllNe.mem (by assumption) (_, _) (by k_mem))
  | assumption
  | exact Ne.symm (by assumption)
  | (refine neN ?_; omega)))
  k_with "my_enter" => ((
  (case ho => k_is)
  (case hcd => k_is)
  (case hbind => exact BindsTo.of_eq rfl)
  (case hloc => exact locs rfl)
  (case hco => exact rfl)
  (case hgen => exact rfl)
  (case hk => exact rfl)
  (case hcell => decide)))
  k_with "my_dist" => (((simp only [Dist, AllNe, and_true]); (repeat' (refine And.intro ?_ ?_)); all_goals k_ne))
  k_with "my_bs" => (first | exact List.forall_mem_nil _ | (refine List.forall_mem_cons.mpr ⟨⟨⟨_, by k_mem⟩, ⟨by k_ne, by k_ne⟩⟩, ?_⟩; walk_at "my_bs"))
  k_with "my_bs0" => (first | exact List.forall_mem_nil _ | (refine List.forall_mem_cons.mpr ⟨⟨_, by k_mem⟩, ?_⟩; walk_at "my_bs0"))
  k_with "my_ro" => (first | exact List.forall_mem_nil _ | (refine List.forall_mem_cons.mpr ⟨?aZ, ?bZ⟩; (case aZ => first | exact fun _ => News.get (by k_asm) (by k_mem) | exact fun hn => absurd (by simp) hn); (case bZ => walk_at "my_ro")))
  k_with "exec Raise some none" => ((k_here; (with_reducible show wpAny _ _ (exec (Stmt.Raise (some (Expr.Call (Expr.Name (PySem.Str.ofString "IoFault") _) _ _ _)) none _) _) _ _ _); k_dflt (refine' raise_K (C := 51) ?XZ ?KZ ?bZ ?tZ ?hZ ?_; (case XZ => k_asm); (case KZ => k_is); (case bZ => rfl); (case tZ => rfl); (case hZ => first | exact rfl | exact Room.hand (by assumption)); k_whole)))
  k_with "exec Raise some none" => ((k_here; (with_reducible show wpAny _ _ (exec (Stmt.Raise (some (Expr.Call (Expr.Name (PySem.Str.ofString "EndFault") _) _ _ _)) none _) _) _ _ _); k_dflt (refine' raise_K (C := 70) ?XZ ?KZ ?bZ ?tZ ?hZ ?_; (case XZ => k_asm); (case KZ => k_is); (case bZ => rfl); (case tZ => rfl); (case hZ => first | exact rfl | exact Room.hand (by assumption)); k_whole)))
  k_with "call ref" => ((k_here; (with_reducible show wpAny _ _ (PySem.call (Value.ref 51) [_, _]) _ _ _); k_dflt (refine' mk51_K ?SZ ?BZ ?FZ ?NZ ?RZ ?_; (case SZ => assumption); (case BZ => assumption); (case FZ => k_asm); (case NZ => k_asm); (case RZ => exact Room.less (by assumption) (by decide)); k_whole); intro h' tk' e' t' d' tx' ty' F' N' l1 l2 l3; (try k_sweep)))
  k_with "call ref" => ((k_here; (with_reducible show wpAny _ _ (PySem.call (Value.ref 70) [_]) _ _ _); k_dflt (refine' mk70_K ?SZ ?BZ ?FZ ?NZ ?RZ ?_; (case SZ => assumption); (case BZ => assumption); (case FZ => k_asm); (case NZ => k_asm); (case RZ => exact Room.less (by assumption) (by decide)); k_whole); intro h' tk' e' t' d' tx' ty' tz' F' N' l1 l2 l3; (try k_sweep)))
  k_with "RaiseMade" => ((k_dflt (refine' raiseMade_ ?XZ ?hZ ?_; (case XZ => k_in); (case hZ => exact News.get (by k_asm) (by k_mem)))))
  k_with "my_enterC" => ((
  (case ho => k_is)
  (case hcd => k_is)
  (case hbind => exact BindsTo.of_eq rfl)
  (case hkind => exact rfl)
  (case hnd => decide +kernel)
  (case hco => exact rfl)
  (case hgen => exact rfl)
  (case hk => exact rfl)))
  k_with "my:k_all" => (exact OffR.all (by assumption))
  k_with "my_sub" => (first | exact List.forall_mem_nil _ | (refine List.forall_mem_cons.mpr ⟨?aZ, ?bZ⟩; (case aZ => k_mem); (case bZ => walk_at "my_sub")) | exact fun _ hq => by ((repeat refine List.Mem.tail _ ?_); exact hq))
  k_with "my_mems" => (first | exact List.forall_mem_nil _ | (refine List.forall_mem_cons.mpr ⟨?aZ, ?bZ⟩; (case aZ => k_mem); (case bZ => walk_at "my_mems")))
  k_with "my_allne" => (((simp only [AllNe, and_true]); (repeat' (refine And.intro ?_ ?_)); all_goals k_ne))
  k_with "my_ro" => (first | exact List.forall_mem_nil _ | (refine List.forall_mem_cons.mpr ⟨?aZ, ?bZ⟩; (case aZ => first | exact fun _ => News.get (by k_asm) (by k_mem) | exact fun hn => absurd (by simp) hn); (case bZ => walk_at "my_ro")) | exact fun _ hq _ => News.get (by k_asm) (by ((repeat refine List.Mem.tail _ ?_); exact hq)))
  k_with "my_bsne" => (first | exact List.forall_mem_nil _ | (refine List.forall_mem_cons.mpr ⟨?aZ, ?bZ⟩; (case aZ => k_ne); (case bZ => walk_at "my_bsne")) | exact OffR.all (by assumption))
  k_with "my_offR" => (first | assumption | exact Offs.at_ (by assumption) _ _ (by k_mem))
  k_with "my:k_all" => ((refine OffR.all ?_; walk_at "my_offR"))
  k_with "compareOp NotEq ref ref" => ((k_here; k_dflt (refine' cmpNe ?NZ ?sZ ?aZ ?bZ ?uZ ?_; (case NZ => k_asm); (case aZ => assumption); (case bZ => assumption); (case uZ => exact hu_law _); (case sZ => walk_at "my_sub"))))
  k_with "compareOp Eq ref ref" => ((k_here; k_dflt (refine' cmpEq ?NZ ?sZ ?aZ ?bZ ?uZ ?_; (case NZ => k_asm); (case aZ => assumption); (case bZ => assumption); (case uZ => exact hu_law _); (case sZ => walk_at "my_sub"))))
  k_with "subscriptTail" => ((k_here; (with_reducible show wpAny _ _ (subscriptTail _ _ (Value.ref _) (Value.int _ _)) _ _ _); k_dflt (refine' listAt ?NZ ?mZ ?aZ ?bZ ?vZ ?_; (case NZ => k_asm); (case mZ => k_mem); (case vZ => assumption); (case aZ => omega); (case bZ => omega))))
  k_with "my_spR" => (first | (refine' SpR.cons ?_; walk_at "my_spR") | exact SpR.nil)
  k_with "my_ho" => (((repeat' (refine And.intro ?_ ?_)); all_goals walk_at "my_offR"))
  k_with "my_u2" => ((intro _; (try dsimp only); k_updF))
  k_with "my_u3" => ((intro _ _; (try dsimp only); k_updF))
  k_with "my_sp" => ((intro _ _ _; (try dsimp only); walk_at "my_spR"))
  k_with "ite" => (((with_reducible show (if _ then wpAny _ _ (eval (Expr.Constant _ _ _) _) _ _ _ else wpAny _ _ (eval (Expr.Constant _ _ _) _) _ _ _)); refine halt ?_))
  k_with "call ref" => ((k_here; (with_reducible show wpAny _ _ (PySem.call (Value.ref 294) [Value.ref _, Value.int _ _]) _ _ _); k_dflt (refine' pluck_K ?SZ ?BZ ?FZ ?NZ ?RZ ?hrZ ?rbZ ?hiZ ?hnZ ?h0Z ?hmZ ?hm2Z ?UZ ?_; (case SZ => assumption); (case BZ => assumption); (case FZ => k_asm); (case NZ => k_asm); (case RZ => exact Room.less (by assumption) (by decide)); (case UZ => k_updF); (case hrZ => exact ⟨_, News.get (by k_asm) (by k_mem), rfl, _, rfl⟩); (case rbZ => k_ne); (case hiZ => assumption); (case hnZ => first | assumption | (rw [List.length_take]; exact Nat.min_le_left _ _)); (case h0Z => first | assumption | decide); (case hmZ => first | decide | omega); (case hm2Z => first | decide | omega); k_whole; intro h' tk' t' v' tv' n' F' N' h0' hv0' hv1'; (try dsimp only at N'); (try k_sweep))))
  k_with "call ref" => ((k_here; (with_reducible show wpAny _ _ (PySem.call (Value.ref 121) _) _ _ _); k_dflt (refine' store_K ?SZ ?BZ ?FZ ?NZ ?RZ ?_; (case SZ => assumption); (case BZ => assumption); (case FZ => k_asm); (case NZ => k_asm); (case RZ => exact Room.less (n := 19) (by assumption) (by decide)); k_whole); intro h' tk' x' d' sf' so' k' F' N' hd' lo' a1' a2' a3' b1' b2' b3'; (try dsimp only at N'); (try k_sweep)))
  k_with "call ref" => ((k_here; (with_reducible show wpAny _ _ (PySem.call (Value.ref 209) [Value.ref _, Value.ref _, Value.int 3 _, Value.ref _]) _ _ _); k_dflt (refine' openA_K ?SZ ?BZ ?FZ ?NZ ?RZ ?h1Z ?DZ ?hsoZ ?huoZ ?hwoZ ?lo1Z ?lo2Z ?lo3Z ?hfmZ ?hl1Z ?hl2Z ?U1Z ?U2Z ?n1Z ?_; (case SZ => assumption); (case BZ => assumption); (case FZ => k_asm); (case NZ => k_asm); (case RZ => exact Room.less (n := 19) (by assumption) (by decide)); (case h1Z => walk_at "my_mems"); (case DZ => walk_at "my_dist"); (case hsoZ => assumption); (case huoZ => assumption); (case hwoZ => assumption); (case lo1Z => assumption); (case lo2Z => assumption); (case lo3Z => assumption); (case hfmZ => assumption); (case hl1Z => omega); (case hl2Z => omega); (case U1Z => k_updF); (case U2Z => walk_at "my_u2"); (case n1Z => k_ne)); skip))
  k_with "call ref" => ((k_here; (with_reducible show wpAny _ _ (PySem.call (Value.ref 209) [Value.ref _, Value.ref _, Value.int 4 _, Value.ref _]) _ _ _); k_dflt (refine' openB_K ?SZ ?BZ ?FZ ?NZ ?RZ ?h1Z ?DZ ?hsoZ ?huoZ ?hwoZ ?lo1Z ?lo2Z ?lo3Z ?hfmZ ?hl1Z ?hl2Z ?U1Z ?U2Z ?n1Z ?_; (case SZ => assumption); (case BZ => assumption); (case FZ => k_asm); (case NZ => k_asm); (case RZ => exact Room.less (n := 19) (by assumption) (by decide)); (case hsoZ => assumption); (case huoZ => assumption); (case h1Z => walk_at "my_mems"); (case DZ => walk_at "my_dist"); (case hwoZ => assumption); (case lo1Z => assumption); (case lo2Z => assumption); (case lo3Z => assumption); (case hfmZ => assumption); (case hl1Z => assumption); (case hl2Z => assumption); (case U1Z => k_updF); (case U2Z => walk_at "my_u2"); (case n1Z => k_ne)); skip))
  k_with "call ref" => ((k_here; (with_reducible show wpAny _ _ (PySem.call (Value.ref 209) [Value.ref _, Value.ref _, Value.int 7 _, Value.ref _]) _ _ _); k_dflt (refine' openC_K ?SZ ?BZ ?FZ ?NZ ?RZ ?h1Z ?DZ ?hsoZ ?huoZ ?hwoZ ?lo1Z ?lo2Z ?lo3Z ?hfmZ ?hl1Z ?hl2Z ?U1Z ?_; (case SZ => assumption); (case BZ => assumption); (case FZ => k_asm); (case NZ => k_asm); (case RZ => exact Room.less (n := 19) (by assumption) (by decide)); (case hsoZ => assumption); (case h1Z => walk_at "my_mems"); (case DZ => walk_at "my_dist"); (case huoZ => assumption); (case hwoZ => assumption); (case lo1Z => assumption); (case lo2Z => assumption); (case lo3Z => assumption); (case hfmZ => assumption); (case hl1Z => assumption); (case hl2Z => assumption); (case U1Z => k_updF)); skip))
  k_with "call ref" => ((k_here; (with_reducible show wpAny _ _ (PySem.call (Value.ref 209) [Value.ref _, Value.ref _, Value.int 4 _, Value.ref _]) _ _ _); k_dflt (refine' openD_K ?SZ ?BZ ?FZ ?NZ ?RZ ?h1Z ?DZ ?hsoZ ?huoZ ?hwoZ ?lo1Z ?lo2Z ?lo3Z ?hfmZ ?hl1Z ?hl2Z ?U1Z ?_; (case SZ => assumption); (case BZ => assumption); (case FZ => k_asm); (case NZ => k_asm); (case RZ => exact Room.less (n := 19) (by assumption) (by decide)); (case hsoZ => assumption); (case huoZ => assumption); (case h1Z => walk_at "my_mems"); (case DZ => walk_at "my_dist"); (case hwoZ => assumption); (case lo1Z => assumption); (case lo2Z => assumption); (case lo3Z => assumption); (case hfmZ => assumption); (case hl1Z => omega); (case hl2Z => omega); (case U1Z => k_updF)); skip))
  k_with "call ref" => ((k_here; (with_reducible show wpAny _ _ (PySem.call (Value.ref 216) [Value.ref _, Value.ref _, Value.int 3 _, Value.none]) _ _ _); k_dflt (refine' closeE_K ?SZ ?BZ ?FZ ?NZ ?RZ ?h1Z ?DZ ?huoZ ?lo2Z ?U1Z ?_; (case SZ => assumption); (case BZ => assumption); (case FZ => k_asm); (case NZ => k_asm); (case RZ => exact Room.less (n := 19) (by assumption) (by decide)); (case huoZ => assumption); (case h1Z => walk_at "my_mems"); (case DZ => walk_at "my_dist"); (case lo2Z => assumption); (case U1Z => k_updF)); skip))
  k_with "call ref" => ((k_here; (with_reducible show wpAny _ _ (PySem.call (Value.ref 216) [Value.ref _, Value.ref _, Value.int 4 _, Value.str _ _]) _ _ _); k_dflt (refine' closeF_K ?SZ ?BZ ?FZ ?NZ ?RZ ?h1Z ?DZ ?huoZ ?lo2Z ?U1Z ?_; (case SZ => assumption); (case BZ => assumption); (case FZ => k_asm); (case NZ => k_asm); (case RZ => exact Room.less (n := 19) (by assumption) (by decide)); (case huoZ => assumption); (case h1Z => walk_at "my_mems"); (case DZ => walk_at "my_dist"); (case lo2Z => assumption); (case U1Z => k_updF)); skip))
  k_with "call ref" => ((k_here; (with_reducible show wpAny _ _ (PySem.call (Value.ref 316) [Value.ref _, Value.ref _, Value.bool _, Value.int _ _]) _ _ _); k_dflt (refine' direct_K ?SZ ?BZ ?FZ ?NZ ?RZ ?T0Z ?h1Z ?DZ ?hdZ ?loZ ?hflZ ?hl0Z ?hl8Z ?hrZ ?hrnZ ?hiZ ?hnZ ?h0Z ?U1Z ?U2Z ?U3Z ?spZ ?n1Z ?n2Z ?n3Z ?_; (case SZ => assumption); (case BZ => assumption); (case FZ => k_asm); (case NZ => k_asm); (case RZ => exact Room.less (n := 19) (by assumption) (by decide)); (case T0Z => assumption); (case h1Z => walk_at "my_mems"); (case hflZ => first | assumption | exact rfl); (case DZ => walk_at "my_dist"); (case hdZ => assumption); (case loZ => assumption); (case hl0Z => omega); (case hl8Z => omega); (case hrZ => exact ⟨_, News.get (by k_asm) (by k_mem), rfl, _, rfl⟩); (case hrnZ => walk_at "my_allne"); (case hiZ => assumption); (case hnZ => first | assumption | (rw [List.length_take]; exact Nat.min_le_left _ _)); (case h0Z => assumption); (case U1Z => k_updF); (case U2Z => walk_at "my_u2"); (case U3Z => walk_at "my_u3"); (case spZ => walk_at "my_sp"); (case n1Z => k_ne); (case n2Z => k_ne); (case n3Z => k_ne)); skip))
  k_with "call ref" => ((k_here; (with_reducible show wpAny _ _ (PySem.call (Value.ref 333) [Value.ref _, Value.ref _, Value.bool _]) _ _ _); k_dflt (refine' seq_K ?SZ ?BZ ?FZ ?NZ ?RZ ?T0Z ?h1Z ?DZ ?hrZ ?hrnZ ?hiZ ?hnZ ?h0Z ?U1Z ?U2Z ?U3Z ?spZ ?n1Z ?n2Z ?n3Z ?_; (case SZ => assumption); (case BZ => assumption); (case FZ => k_asm); (case NZ => k_asm); (case RZ => exact Room.less (n := 19) (by assumption) (by decide)); (case T0Z => assumption); (case h1Z => walk_at "my_mems"); (case DZ => walk_at "my_dist"); (case hrZ => exact ⟨_, News.get (by k_asm) (by k_mem), rfl, _, rfl⟩); (case hrnZ => walk_at "my_allne"); (case hiZ => assumption); (case hnZ => first | assumption | (rw [List.length_take]; exact Nat.min_le_left _ _)); (case h0Z => assumption); (case U1Z => k_updF); (case U2Z => walk_at "my_u2"); (case U3Z => walk_at "my_u3"); (case spZ => walk_at "my_sp"); (case n1Z => k_ne); (case n2Z => k_ne); (case n3Z => k_ne)); skip))
  k_with "call ref" => ((k_here; (with_reducible show wpAny _ _ (PySem.call (Value.ref 311) [Value.ref _]) _ _ _); k_dflt (refine' numbered_K ?SZ ?BZ ?FZ ?NZ ?RZ ?T0Z ?h1Z ?hdZ ?loZ ?DZ ?UZ ?_; (case SZ => assumption); (case BZ => assumption); (case FZ => k_asm); (case NZ => k_asm); (case RZ => exact Room.less (n := 19) (by assumption) (by decide)); (case T0Z => assumption); (case h1Z => walk_at "my_mems"); (case hdZ => assumption); (case loZ => assumption); (case DZ => walk_at "my_dist"); (case UZ => k_updF)); skip))
  k_with "call ref" => ((k_here; (with_reducible show wpAny _ _ (PySem.call (Value.ref 323) [Value.ref _]) _ _ _); k_dflt (refine' rows_K ?SZ ?BZ ?FZ ?NZ ?RZ ?T0Z ?h1Z ?DZ ?hoZ ?hzZ ?hxZ ?UZ ?_; (case SZ => assumption); (case BZ => assumption); (case FZ => k_asm); (case NZ => k_asm); (case RZ => exact Room.less (n := 19) (by assumption) (by decide)); (case T0Z => assumption); (case hxZ => assumption); (case h1Z => walk_at "my_sub"); (case DZ => walk_at "my_dist"); (case hoZ => walk_at "my_ho"); (case hzZ => first | assumption | omega); (case UZ => k_updF)); skip))
  k_with "call ref" => ((k_here; (with_reducible show wpAny _ _ (PySem.call (Value.ref 306) [Value.ref 230, Value.ref _, Value.ref _]) _ _ _); k_dflt (refine' heardRX_K ?SZ ?BZ ?FZ ?NZ ?RZ ?T0Z ?p0Z ?h1Z ?DpZ ?_; (case SZ => assumption); (case BZ => assumption); (case FZ => k_asm); (case NZ => k_asm); (case RZ => exact Room.less (n := 19) (by assumption) (by decide)); (case T0Z => assumption); (case p0Z => k_mem); (case h1Z => walk_at "my_mems"); (case DpZ => walk_at "my_allne")); intro h' tk' tz' g' T' F' B' N'; refine halt ?_))
  k_with "call ref" => ((k_here; (with_reducible show wpAny _ _ (PySem.call (Value.ref 306) [Value.ref 286, Value.ref _, Value.ref _]) _ _ _); k_dflt (refine' heardWX_K ?SZ ?BZ ?FZ ?NZ ?RZ ?T0Z ?p0Z ?h1Z ?DpZ ?_; (case SZ => assumption); (case BZ => assumption); (case FZ => k_asm); (case NZ => k_asm); (case RZ => exact Room.less (n := 19) (by assumption) (by decide)); (case T0Z => assumption); (case p0Z => k_mem); (case h1Z => walk_at "my_mems"); (case DpZ => walk_at "my_allne")); intro h' tk' tz' g' T' F' B' N'; refine halt ?_))
  trivial
noncomputable def lawA_s : (Rq : World → Shared → Shared → (Str → Option Value) → (Str → Option Value) → Addr → Obj → Value → Value → Value → Addr → Obj → Addr → Addr → List Int → List Addr → List Addr → Addr → List Value → List Addr → Heap → Prop) ×' ((∀ (qa0 : World) (qa1 : Shared) (qa2 : Shared) (qa3 : Str → Option Value) (qa4 : Str → Option Value) (qa7 : Addr) (qa8 : Obj) (qa9 : Value) (qa10 : Value) (qa11 : Value) (qa22 : Addr) (qa23 : Obj) (qa25 : Addr) (qa26 : Addr) (qa28 : List Int) (qa34 : List Addr) (qa35 : List Addr) (qa36 : Addr) (qa37 : List Value) (qa38 : List Addr) (qa48 : Heap), Rq qa0 qa1 qa2 qa3 qa4 qa7 qa8 qa9 qa10 qa11 qa22 qa23 qa25 qa26 qa28 qa34 qa35 qa36 qa37 qa38 qa48) → PySem.Challenge.rw_sa0211_01.Holds) := by
  refine ⟨?Rq, fun kHc => ?pfq⟩
  case pfq =>
    refine Mine.hd ?_
    refine holds_open (r := PySem.Challenge.rw_sa0211_01.row) (q := Mine.view) (loose := [Str.ofString "MOST_UNIT", Str.ofString "MOST_LENGTH"]) (Xt := Mine.xt) (XP := XL Mine.view [(Str.ofString "MOST_UNIT", WData.int 1000000000000000000), (Str.ofString "MOST_LENGTH", WData.int 100000)])
      (Yf := Hook.obs Mine.hk) (Ya := Hook.val Mine.hk) (YP := Hook.says Mine.hk) (N := 5334) left_top (Hook.of Mine.hk) (Hook.keeps Mine.hk)
      (fun s e => xl_of s (Bool.and_eq_true_iff.mp e).1) XL.keeps (by rfl) (by rfl) (by rfl) (fun s e => recFacts_of (Bool.and_eq_true_iff.mp e).2) (by rfl) (row_said said0) (by decide +kernel) ⟨rfl, rfl, rfl, rfl, rfl, by decide +kernel⟩ ?hw ?hc
    case hw => w_witness2
    k_go0
    all_goals try k_fold
    (rename Top _ _ _ _ _ _ => TT)
    (rename Frag.In _ _ => KX)
    have S : St _ _ _ _ _ := ⟨KX, TT⟩
    (rename Below _ _ _ _ => K0)
    have B0 := b_at KX K0
    clear K0
    have T0 := t_at KX
    have Rm : Room callerA 19 := ⟨rfl, by decide, by decide⟩
    rename_i qa0 qa1 qa2 qa3 qa4 qa5 qa6 qa7 qa8 qa9 qa10 qa11 qa12 qa13 qa15 qa16 qa17 qa19 qa20 qa21 qa22 qa23 qa24 qa25 qa26 qa27 qa28 qa29 qa30 qa31 qa32 qa33 qa34 qa35 qa36 qa37 qa38 qa39 qa40 qa41 qa42 qa43 qa44 qa45 qa46 qa47 qa48 qa49 qa50
    revert Rm; revert T0; revert B0; revert S; revert qa50; revert qa49; revert qa47; revert qa46; revert qa45; revert qa44; revert qa43; revert qa42; revert qa41; revert qa40; revert qa39; revert qa33; revert qa32; revert qa31; revert qa30; revert qa29; revert qa27; revert qa24; revert qa21; revert qa20; revert qa19; revert TT; revert qa17; revert qa16; revert qa15; revert KX; revert qa13; revert qa12; revert qa6; revert qa5
    exact kHc qa0 qa1 qa2 qa3 qa4 qa7 qa8 qa9 qa10 qa11 qa22 qa23 qa25 qa26 qa28 qa34 qa35 qa36 qa37 qa38 qa48
noncomputable def lawA_q (x : (((((World × Shared) × Shared) × (((Str → Option Value) × (Str → Option Value)) × Addr)) × (((Obj × Value) × Value) × (Value × Addr))) × ((((Obj × Addr) × Addr) × (List Int × List Addr)) × (((List Addr × Addr) × List Value) × (List Addr × Heap))))) : Prop := lawA_s.1 x.1.1.1.1.1 x.1.1.1.1.2 x.1.1.1.2 x.1.1.2.1.1 x.1.1.2.1.2 x.1.1.2.2 x.1.2.1.1.1 x.1.2.1.1.2 x.1.2.1.2 x.1.2.2.1 x.1.2.2.2 x.2.1.1.1.1 x.2.1.1.1.2 x.2.1.1.2 x.2.1.2.1 x.2.1.2.2 x.2.2.1.1.1 x.2.2.1.1.2 x.2.2.1.2 x.2.2.2.1 x.2.2.2.2
noncomputable def lawA_c := @Classical.epsilon _ ⟨(((((aWorld 1, {}), {}), ((fun _ => none, fun _ => none), 0)), (((instObj 0 0, .none), .none), (.none, 0))), ((((instObj 0 0, 0), 0), ([], default)), (((default, 0), []), (default, {}))))⟩ fun x => ¬ lawA_q x
noncomputable def lawB_s : (Rq : World → Shared → Shared → (Str → Option Value) → (Str → Option Value) → Addr → Obj → Value → Value → Value → Addr → Obj → Addr → Addr → List Int → List Addr → List Addr → Addr → List Value → List Addr → Heap → Addr → List Value → Heap → Addr → Heap → Heap → Nat → Heap → Nat → Tok → Int → Tok → Nat → Heap → Nat → Tok → Int → Tok → Nat → Addr → Heap → Heap → Heap → Heap → Nat → Tok → Nat → Heap → Heap → Nat → Addr → Addr → Addr → Obj → Tok → Addr → Heap → Obj → Addr → Heap → Heap → Heap → Heap → Nat → Heap → Obj → Heap → Nat → Addr → Addr → UI → Addr → Addr → Addr → Nat → Addr → Obj → Obj → Obj → Tok → Tok → Tok → Tok → Tok → Tok → Tok → Tok → Tok → Tok → Tok → Heap → Nat → Heap → Nat → Heap → Value → Obj → Int → Tok → Nat → List (Int × Value) → List (Addr × Obj) → Heap → Nat → Heap → Value → Addr → Value → Value → Value → Value → Nat → Heap → Nat → Heap → Obj → Heap → Nat → Addr → Addr → UI → Addr → Addr → Addr → Nat → Addr → Obj → Obj → Obj → Tok → Tok → Tok → Tok → Tok → Tok → Tok → Tok → Tok → Tok → Tok → Str → Heap → Nat → Heap → Nat → Heap → Tok → List Value → List PyData → Nat → Int → Tok → Nat → List (Addr × Obj) → Prop) ×' ((∀ (qa0 : World) (qa1 : Shared) (qa2 : Shared) (qa3 : Str → Option Value) (qa4 : Str → Option Value) (qa7 : Addr) (qa8 : Obj) (qa9 : Value) (qa10 : Value) (qa11 : Value) (qa22 : Addr) (qa23 : Obj) (qa25 : Addr) (qa26 : Addr) (qa28 : List Int) (qa34 : List Addr) (qa35 : List Addr) (qa36 : Addr) (qa37 : List Value) (qa38 : List Addr) (qa48 : Heap) (qb52 : Addr) (qb53 : List Value) (qb54 : Heap) (qb59 : Addr) (qb60 : Heap) (qb62 : Heap) (qb63 : Nat) (qb64 : Heap) (qb65 : Nat) (qb66 : Tok) (qb67 : Int) (qb68 : Tok) (qb69 : Nat) (qb73 : Heap) (qb74 : Nat) (t' : Tok) (v' : Int) (tv' : Tok) (n' : Nat) (qb82 : Addr) (qb83 : Heap) (qb85 : Heap) (qb86 : Heap) (qb87 : Heap) (qb88 : Nat) (tfm : Tok) (tkf : Nat) (qb91 : Heap) (h' : Heap) (tk' : Nat) (x' : Addr) (d' : Addr) (sf' : Addr) (so' : Obj) (k' : Tok) (qb107 : Addr) (qb108 : Heap) (qb109 : Obj) (qb116 : Addr) (qb117 : Heap) (qb119 : Heap) (qb120 : Heap) (qb121 : Heap) (qb122 : Nat) (qb123 : Heap) (qb124 : Obj) (h1 : Heap) (tk1 : Nat) (u1 : Addr) (du1 : Addr) (ui1 : UI) (f1 : Addr) (df1 : Addr) (rc1 : Addr) (rn1 : Nat) (nb1 : Addr) (no1 : Obj) (so1 : Obj) (uo1 : Obj) (tp1 : Tok) (q1 : Tok) (q2 : Tok) (q3 : Tok) (q4 : Tok) (q5 : Tok) (q6 : Tok) (q7 : Tok) (q8 : Tok) (q9 : Tok) (q10 : Tok) (qb161 : Heap) (qb162 : Nat) (h2 : Heap) (tk2 : Nat) (g2 : Heap) (p2 : Value) (o2 : Obj) (i2 : Int) (t2 : Tok) (n2 : Nat) (kvs : List (Int × Value)) (rs1 : List (Addr × Obj)) (h3 : Heap) (tk3 : Nat) (g3 : Heap) (p3 : Value) (r3 : Addr) (v1 : Value) (v2 : Value) (v3 : Value) (v4 : Value) (rn3 : Nat) (qb195 : Heap) (qb196 : Nat) (qb197 : Heap) (qb198 : Obj) (h4 : Heap) (tk4 : Nat) (u2 : Addr) (du2 : Addr) (ui2 : UI) (f2 : Addr) (df2 : Addr) (rc2 : Addr) (rn2 : Nat) (nb2 : Addr) (no2 : Obj) (so2 : Obj) (uo2 : Obj) (tp2 : Tok) (w1 : Tok) (w2 : Tok) (w3 : Tok) (w4 : Tok) (w5 : Tok) (w6 : Tok) (w7 : Tok) (w8 : Tok) (w9 : Tok) (w10 : Tok) (fm2 : Str) (qb250 : Heap) (tk : Nat) (h5 : Heap) (tk5 : Nat) (g5 : Heap) (tz5 : Tok) (xs : List Value) (ds : List PyData) (cap5 : Nat) (i5 : Int) (t5 : Tok) (n5 : Nat) (rs2 : List (Addr × Obj)), Rq qa0 qa1 qa2 qa3 qa4 qa7 qa8 qa9 qa10 qa11 qa22 qa23 qa25 qa26 qa28 qa34 qa35 qa36 qa37 qa38 qa48 qb52 qb53 qb54 qb59 qb60 qb62 qb63 qb64 qb65 qb66 qb67 qb68 qb69 qb73 qb74 t' v' tv' n' qb82 qb83 qb85 qb86 qb87 qb88 tfm tkf qb91 h' tk' x' d' sf' so' k' qb107 qb108 qb109 qb116 qb117 qb119 qb120 qb121 qb122 qb123 qb124 h1 tk1 u1 du1 ui1 f1 df1 rc1 rn1 nb1 no1 so1 uo1 tp1 q1 q2 q3 q4 q5 q6 q7 q8 q9 q10 qb161 qb162 h2 tk2 g2 p2 o2 i2 t2 n2 kvs rs1 h3 tk3 g3 p3 r3 v1 v2 v3 v4 rn3 qb195 qb196 qb197 qb198 h4 tk4 u2 du2 ui2 f2 df2 rc2 rn2 nb2 no2 so2 uo2 tp2 w1 w2 w3 w4 w5 w6 w7 w8 w9 w10 fm2 qb250 tk h5 tk5 g5 tz5 xs ds cap5 i5 t5 n5 rs2) → lawA_q lawA_c) := by
  refine ⟨?Rq, fun kHc => ?pfq⟩
  case pfq =>
    refine (?fq : ∀ (qa0 : World) (qa1 : Shared) (qa2 : Shared) (qa3 : Str → Option Value) (qa4 : Str → Option Value) (qa7 : Addr) (qa8 : Obj) (qa9 : Value) (qa10 : Value) (qa11 : Value) (qa22 : Addr) (qa23 : Obj) (qa25 : Addr) (qa26 : Addr) (qa28 : List Int) (qa34 : List Addr) (qa35 : List Addr) (qa36 : Addr) (qa37 : List Value) (qa38 : List Addr) (qa48 : Heap), lawA_s.1 qa0 qa1 qa2 qa3 qa4 qa7 qa8 qa9 qa10 qa11 qa22 qa23 qa25 qa26 qa28 qa34 qa35 qa36 qa37 qa38 qa48) _ _ _ _ _ _ _ _ _ _ _ _ _ _ _ _ _ _ _ _ _ 
    intro qa0 qa1 qa2 qa3 qa4 qa7 qa8 qa9 qa10 qa11 qa22 qa23 qa25 qa26 qa28 qa34 qa35 qa36 qa37 qa38 qa48 qa5 qa6 qa12 qa13 KX qa15 qa16 qa17 TT qa19 qa20 qa21 qa24 qa27 qa29 qa30 qa31 qa32 qa33 qa39 qa40 qa41 qa42 qa43 qa44 qa45 qa46 qa47 qa49 qa50 S B0 T0 Rm
    k_steps
    unfold Halt
    refine ite_form (fun fm tfm tkf hfm => ?_) rfl rfl
    k_steps
    unfold Halt
    intro h1 tk1 u1 du1 ui1 f1 df1 fi1 rc1 rn1 nb1 no1 so1 uo1 tp1 F1 N1 hno1 lo1 hso1 huo1 e1 e2 e3 a1 a2 a3 a4 a5 a6
    obtain ⟨q1, q2, q3, q4, q5, q6, q7, q8, q9, q10, nm1, fm1, len1⟩ := fi1
    dsimp only at e1 e2 e3
    subst e1
    subst e2
    have hlen1 : 2 ≤ len1 := by omega
    have hlen2 : len1 ≤ 4 := by omega
    subst e3
    (try dsimp only at N1)
    k_steps
    unfold Halt
    intro h2 tk2 g2 p2 o2 i2 t2 n2 kvs rs1 T2 F2 B2 N2 hd2 h02 hsub2 hKV htr2
    have X2 := S.X.keeps B2.stays
    have TT2 := S.T.keeps B2.stays
    (try dsimp only at N2)
    have O2 : Offs rs1 _ := ⟨fun a o h => htr2 a o h OffR.nil⟩
    clear htr2 hsub2 T0
    k_steps
    unfold Halt
    intro h3 tk3 g3 p3 r3 v1 v2 v3 v4 rn3 T3 F3 B3 N3 b3 z1 z2 z3 z4
    have X3 := S.X.keeps B3.stays
    have TT3 := S.T.keeps B3.stays
    (try dsimp only at N3)
    clear T2
    k_steps
    unfold Halt
    intro h4 tk4 u2 du2 ui2 f2 df2 fi2 rc2 rn2 nb2 no2 so2 uo2 tp2 F4 N4 hno2 lo4 hso2 huo2 e1 e2 e3 c1 c2 c3 c4 c5 c6
    obtain ⟨w1, w2, w3, w4, w5, w6, w7, w8, w9, w10, nm2, fm2, len2⟩ := fi2
    dsimp only at e1 e2 e3
    subst e1
    subst e2
    subst e3
    (try dsimp only at N4)
    have O41 := O2.new c6 (by walk_at "my_sub")
    have O42 := O41.new c5 (by walk_at "my_sub")
    have O43 := O42.new c4 (by walk_at "my_sub")
    have O44 := O43.new c3 (by walk_at "my_sub")
    have O45 := O44.new c2 (by walk_at "my_sub")
    have O46 := O45.new c1 (by walk_at "my_sub")
    clear O2 O41 O42 O43 O44 O45
    k_steps
    unfold Halt
    intro h5 tk5 g5 tz5 xs ds cap5 i5 t5 n5 rs2 T5 F5 B5 N5 hx0 hx8 hsub5 hRD htr5
    have X5 := S.X.keeps B5.stays
    have TT5 := S.T.keeps B5.stays
    (try dsimp only at N5)
    have O5 := Offs.turn htr5 (by walk_at "my_bs0") O46
    have hKV2 := hKV.mono hsub5
    clear htr5 O46 hKV T3 hsub5
    rename_i qb52 qb53 qb54 qb55 qb56 qb57 qb58 qb59 qb60 qb61 qb62 qb63 qb64 qb65 qb66 qb67 qb68 qb69 qb70 qb71 qb72 qb73 qb74 qb82 qb83 qb84 qb85 qb86 qb87 qb88 qb91 qb107 qb108 qb109 qb110 qb111 qb112 qb113 qb114 qb115 qb116 qb117 qb118 qb119 qb120 qb121 qb122 qb123 qb124 qb125 qb126 qb127 qb161 qb162 qb195 qb196 qb197 qb198 qb199 qb230 qb231 qb235 qb236 qb240 qb241 qb242 qb243 qb250 qb251 qb252
    (try dsimp only)
    revert hKV2; revert O5; revert TT5; revert X5; revert hRD; revert hx8; revert hx0; revert N5; revert B5; revert F5; revert T5; revert qb252; revert qb251; revert c3; revert c2; revert c1; revert c6; revert c5; revert c4; revert qb243; revert qb242; revert qb241; revert qb240; revert b3; revert N2; revert F2; revert qb236; revert qb235; revert a3; revert a2; revert a1; revert qb231; revert qb230; revert hfm; revert huo2; revert hso2; revert lo4; revert hno2; revert qb199; revert TT3; revert X3; revert z4; revert z3; revert z2; revert z1; revert B3; revert TT2; revert X2; revert h02; revert hd2; revert B2; revert hlen2; revert hlen1; revert a6; revert a5; revert a4; revert huo1; revert hso1; revert lo1; revert hno1; revert qb127; revert qb126; revert qb125; revert qb118; revert qb115; revert qb114; revert qb113; revert qb112; revert qb111; revert qb110; revert b3'; revert b2'; revert b1'; revert a3'; revert a2'; revert a1'; revert lo'; revert hd'; revert qb84; revert hv1'; revert hv0'; revert h0'; revert qb72; revert qb71; revert qb70; revert qb61; revert qb58; revert qb57; revert qb56; revert qb55; revert Rm; revert B0; revert S; revert qa47; revert qa46; revert qa45; revert qa44; revert qa43; revert qa42; revert qa41; revert qa40; revert qa39; revert qa33; revert qa32; revert qa31; revert qa30; revert qa29; revert qa27; revert qa24; revert qa21; revert qa20; revert qa19; revert TT; revert qa17; revert qa16; revert qa15; revert KX; revert qa13; revert qa12; revert qa6; revert qa5
    exact kHc qa0 qa1 qa2 qa3 qa4 qa7 qa8 qa9 qa10 qa11 qa22 qa23 qa25 qa26 qa28 qa34 qa35 qa36 qa37 qa38 qa48 qb52 qb53 qb54 qb59 qb60 qb62 qb63 qb64 qb65 qb66 qb67 qb68 qb69 qb73 qb74 t' v' tv' n' qb82 qb83 qb85 qb86 qb87 qb88 tfm tkf qb91 h' tk' x' d' sf' so' k' qb107 qb108 qb109 qb116 qb117 qb119 qb120 qb121 qb122 qb123 qb124 h1 tk1 u1 du1 ui1 f1 df1 rc1 rn1 nb1 no1 so1 uo1 tp1 q1 q2 q3 q4 q5 q6 q7 q8 q9 q10 qb161 qb162 h2 tk2 g2 p2 o2 i2 t2 n2 kvs rs1 h3 tk3 g3 p3 r3 v1 v2 v3 v4 rn3 qb195 qb196 qb197 qb198 h4 tk4 u2 du2 ui2 f2 df2 rc2 rn2 nb2 no2 so2 uo2 tp2 w1 w2 w3 w4 w5 w6 w7 w8 w9 w10 fm2 qb250 tk h5 tk5 g5 tz5 xs ds cap5 i5 t5 n5 rs2
noncomputable def lawB_q (x : ((((((((World × Shared) × Shared) × ((Str → Option Value) × (Str → Option Value))) × (((Addr × Obj) × Value) × (Value × Value))) × ((((Addr × Obj) × Addr) × (Addr × List Int)) × (((List Addr × List Addr) × Addr) × (List Value × List Addr)))) × (((((Heap × Addr) × List Value) × (Heap × Addr)) × (((Heap × Heap) × Nat) × (Heap × Nat))) × ((((Tok × Int) × Tok) × (Nat × Heap)) × ((Nat × Tok) × (Int × Tok))))) × ((((((Nat × Addr) × Heap) × (Heap × Heap)) × (((Heap × Nat) × Tok) × (Nat × Heap))) × ((((Heap × Nat) × Addr) × (Addr × Addr)) × (((Obj × Tok) × Addr) × (Heap × Obj)))) × (((((Addr × Heap) × Heap) × (Heap × Heap)) × (((Nat × Heap) × Obj) × (Heap × Nat))) × ((((Addr × Addr) × UI) × (Addr × Addr)) × ((Addr × Nat) × (Addr × Obj)))))) × (((((((Obj × Obj) × Tok) × (Tok × Tok)) × (((Tok × Tok) × Tok) × (Tok × Tok))) × ((((Tok × Tok) × Tok) × (Heap × Nat)) × (((Heap × Nat) × Heap) × (Value × Obj)))) × (((((Int × Tok) × Nat) × (List (Int × Value) × List (Addr × Obj))) × (((Heap × Nat) × Heap) × (Value × Addr))) × ((((Value × Value) × Value) × (Value × Nat)) × ((Heap × Nat) × (Heap × Obj))))) × ((((((Heap × Nat) × Addr) × (Addr × UI)) × (((Addr × Addr) × Addr) × (Nat × Addr))) × ((((Obj × Obj) × Obj) × (Tok × Tok)) × ((Tok × Tok) × (Tok × Tok)))) × (((((Tok × Tok) × Tok) × (Tok × Tok)) × (((Str × Heap) × Nat) × (Heap × Nat))) × ((((Heap × Tok) × List Value) × (List PyData × Nat)) × ((Int × Tok) × (Nat × List (Addr × Obj))))))))) : Prop := lawB_s.1 x.1.1.1.1.1.1.1.1 x.1.1.1.1.1.1.1.2 x.1.1.1.1.1.1.2 x.1.1.1.1.1.2.1 x.1.1.1.1.1.2.2 x.1.1.1.1.2.1.1.1 x.1.1.1.1.2.1.1.2 x.1.1.1.1.2.1.2 x.1.1.1.1.2.2.1 x.1.1.1.1.2.2.2 x.1.1.1.2.1.1.1.1 x.1.1.1.2.1.1.1.2 x.1.1.1.2.1.1.2 x.1.1.1.2.1.2.1 x.1.1.1.2.1.2.2 x.1.1.1.2.2.1.1.1 x.1.1.1.2.2.1.1.2 x.1.1.1.2.2.1.2 x.1.1.1.2.2.2.1 x.1.1.1.2.2.2.2 x.1.1.2.1.1.1.1.1 x.1.1.2.1.1.1.1.2 x.1.1.2.1.1.1.2 x.1.1.2.1.1.2.1 x.1.1.2.1.1.2.2 x.1.1.2.1.2.1.1.1 x.1.1.2.1.2.1.1.2 x.1.1.2.1.2.1.2 x.1.1.2.1.2.2.1 x.1.1.2.1.2.2.2 x.1.1.2.2.1.1.1.1 x.1.1.2.2.1.1.1.2 x.1.1.2.2.1.1.2 x.1.1.2.2.1.2.1 x.1.1.2.2.1.2.2 x.1.1.2.2.2.1.1 x.1.1.2.2.2.1.2 x.1.1.2.2.2.2.1 x.1.1.2.2.2.2.2 x.1.2.1.1.1.1.1.1 x.1.2.1.1.1.1.1.2 x.1.2.1.1.1.1.2 x.1.2.1.1.1.2.1 x.1.2.1.1.1.2.2 x.1.2.1.1.2.1.1.1 x.1.2.1.1.2.1.1.2 x.1.2.1.1.2.1.2 x.1.2.1.1.2.2.1 x.1.2.1.1.2.2.2 x.1.2.1.2.1.1.1.1 x.1.2.1.2.1.1.1.2 x.1.2.1.2.1.1.2 x.1.2.1.2.1.2.1 x.1.2.1.2.1.2.2 x.1.2.1.2.2.1.1.1 x.1.2.1.2.2.1.1.2 x.1.2.1.2.2.1.2 x.1.2.1.2.2.2.1 x.1.2.1.2.2.2.2 x.1.2.2.1.1.1.1.1 x.1.2.2.1.1.1.1.2 x.1.2.2.1.1.1.2 x.1.2.2.1.1.2.1 x.1.2.2.1.1.2.2 x.1.2.2.1.2.1.1.1 x.1.2.2.1.2.1.1.2 x.1.2.2.1.2.1.2 x.1.2.2.1.2.2.1 x.1.2.2.1.2.2.2 x.1.2.2.2.1.1.1.1 x.1.2.2.2.1.1.1.2 x.1.2.2.2.1.1.2 x.1.2.2.2.1.2.1 x.1.2.2.2.1.2.2 x.1.2.2.2.2.1.1 x.1.2.2.2.2.1.2 x.1.2.2.2.2.2.1 x.1.2.2.2.2.2.2 x.2.1.1.1.1.1.1.1 x.2.1.1.1.1.1.1.2 x.2.1.1.1.1.1.2 x.2.1.1.1.1.2.1 x.2.1.1.1.1.2.2 x.2.1.1.1.2.1.1.1 x.2.1.1.1.2.1.1.2 x.2.1.1.1.2.1.2 x.2.1.1.1.2.2.1 x.2.1.1.1.2.2.2 x.2.1.1.2.1.1.1.1 x.2.1.1.2.1.1.1.2 x.2.1.1.2.1.1.2 x.2.1.1.2.1.2.1 x.2.1.1.2.1.2.2 x.2.1.1.2.2.1.1.1 x.2.1.1.2.2.1.1.2 x.2.1.1.2.2.1.2 x.2.1.1.2.2.2.1 x.2.1.1.2.2.2.2 x.2.1.2.1.1.1.1.1 x.2.1.2.1.1.1.1.2 x.2.1.2.1.1.1.2 x.2.1.2.1.1.2.1 x.2.1.2.1.1.2.2 x.2.1.2.1.2.1.1.1 x.2.1.2.1.2.1.1.2 x.2.1.2.1.2.1.2 x.2.1.2.1.2.2.1 x.2.1.2.1.2.2.2 x.2.1.2.2.1.1.1.1 x.2.1.2.2.1.1.1.2 x.2.1.2.2.1.1.2 x.2.1.2.2.1.2.1 x.2.1.2.2.1.2.2 x.2.1.2.2.2.1.1 x.2.1.2.2.2.1.2 x.2.1.2.2.2.2.1 x.2.1.2.2.2.2.2 x.2.2.1.1.1.1.1.1 x.2.2.1.1.1.1.1.2 x.2.2.1.1.1.1.2 x.2.2.1.1.1.2.1 x.2.2.1.1.1.2.2 x.2.2.1.1.2.1.1.1 x.2.2.1.1.2.1.1.2 x.2.2.1.1.2.1.2 x.2.2.1.1.2.2.1 x.2.2.1.1.2.2.2 x.2.2.1.2.1.1.1.1 x.2.2.1.2.1.1.1.2 x.2.2.1.2.1.1.2 x.2.2.1.2.1.2.1 x.2.2.1.2.1.2.2 x.2.2.1.2.2.1.1 x.2.2.1.2.2.1.2 x.2.2.1.2.2.2.1 x.2.2.1.2.2.2.2 x.2.2.2.1.1.1.1.1 x.2.2.2.1.1.1.1.2 x.2.2.2.1.1.1.2 x.2.2.2.1.1.2.1 x.2.2.2.1.1.2.2 x.2.2.2.1.2.1.1.1 x.2.2.2.1.2.1.1.2 x.2.2.2.1.2.1.2 x.2.2.2.1.2.2.1 x.2.2.2.1.2.2.2 x.2.2.2.2.1.1.1.1 x.2.2.2.2.1.1.1.2 x.2.2.2.2.1.1.2 x.2.2.2.2.1.2.1 x.2.2.2.2.1.2.2 x.2.2.2.2.2.1.1 x.2.2.2.2.2.1.2 x.2.2.2.2.2.2.1 x.2.2.2.2.2.2.2
noncomputable def lawB_c := @Classical.epsilon _ ⟨((((((((aWorld 1, {}), {}), (fun _ => none, fun _ => none)), (((0, instObj 0 0), .none), (.none, .none))), ((((0, instObj 0 0), 0), (0, [])), (((default, default), 0), ([], default)))), ((((({}, 0), []), ({}, 0)), ((({}, {}), 0), ({}, 0))), ((((0, 0), 0), (0, {})), ((0, 0), (0, 0))))), ((((((0, 0), {}), ({}, {})), ((({}, 0), 0), (0, {}))), (((({}, 0), 0), (0, 0)), (((instObj 0 0, 0), 0), ({}, instObj 0 0)))), (((((0, {}), {}), ({}, {})), (((0, {}), instObj 0 0), ({}, 0))), ((((0, 0), ⟨0, 0, 0, 0, .none, .none⟩), (0, 0)), ((0, 0), (0, instObj 0 0)))))), (((((((instObj 0 0, instObj 0 0), 0), (0, 0)), (((0, 0), 0), (0, 0))), ((((0, 0), 0), ({}, 0)), ((({}, 0), {}), (.none, instObj 0 0)))), (((((0, 0), 0), ([], [])), ((({}, 0), {}), (.none, 0))), ((((.none, .none), .none), (.none, 0)), (({}, 0), ({}, instObj 0 0))))), (((((({}, 0), 0), (0, ⟨0, 0, 0, 0, .none, .none⟩)), (((0, 0), 0), (0, 0))), ((((instObj 0 0, instObj 0 0), instObj 0 0), (0, 0)), ((0, 0), (0, 0)))), (((((0, 0), 0), (0, 0)), (((Str.ofString "", {}), 0), ({}, 0))), (((({}, 0), []), ([], 0)), ((0, 0), (0, [])))))))⟩ fun x => ¬ lawB_q x
theorem lawB_k : lawB_q lawB_c := by
  refine (?fq : ∀ (qa0 : World) (qa1 : Shared) (qa2 : Shared) (qa3 : Str → Option Value) (qa4 : Str → Option Value) (qa7 : Addr) (qa8 : Obj) (qa9 : Value) (qa10 : Value) (qa11 : Value) (qa22 : Addr) (qa23 : Obj) (qa25 : Addr) (qa26 : Addr) (qa28 : List Int) (qa34 : List Addr) (qa35 : List Addr) (qa36 : Addr) (qa37 : List Value) (qa38 : List Addr) (qa48 : Heap) (qb52 : Addr) (qb53 : List Value) (qb54 : Heap) (qb59 : Addr) (qb60 : Heap) (qb62 : Heap) (qb63 : Nat) (qb64 : Heap) (qb65 : Nat) (qb66 : Tok) (qb67 : Int) (qb68 : Tok) (qb69 : Nat) (qb73 : Heap) (qb74 : Nat) (t' : Tok) (v' : Int) (tv' : Tok) (n' : Nat) (qb82 : Addr) (qb83 : Heap) (qb85 : Heap) (qb86 : Heap) (qb87 : Heap) (qb88 : Nat) (tfm : Tok) (tkf : Nat) (qb91 : Heap) (h' : Heap) (tk' : Nat) (x' : Addr) (d' : Addr) (sf' : Addr) (so' : Obj) (k' : Tok) (qb107 : Addr) (qb108 : Heap) (qb109 : Obj) (qb116 : Addr) (qb117 : Heap) (qb119 : Heap) (qb120 : Heap) (qb121 : Heap) (qb122 : Nat) (qb123 : Heap) (qb124 : Obj) (h1 : Heap) (tk1 : Nat) (u1 : Addr) (du1 : Addr) (ui1 : UI) (f1 : Addr) (df1 : Addr) (rc1 : Addr) (rn1 : Nat) (nb1 : Addr) (no1 : Obj) (so1 : Obj) (uo1 : Obj) (tp1 : Tok) (q1 : Tok) (q2 : Tok) (q3 : Tok) (q4 : Tok) (q5 : Tok) (q6 : Tok) (q7 : Tok) (q8 : Tok) (q9 : Tok) (q10 : Tok) (qb161 : Heap) (qb162 : Nat) (h2 : Heap) (tk2 : Nat) (g2 : Heap) (p2 : Value) (o2 : Obj) (i2 : Int) (t2 : Tok) (n2 : Nat) (kvs : List (Int × Value)) (rs1 : List (Addr × Obj)) (h3 : Heap) (tk3 : Nat) (g3 : Heap) (p3 : Value) (r3 : Addr) (v1 : Value) (v2 : Value) (v3 : Value) (v4 : Value) (rn3 : Nat) (qb195 : Heap) (qb196 : Nat) (qb197 : Heap) (qb198 : Obj) (h4 : Heap) (tk4 : Nat) (u2 : Addr) (du2 : Addr) (ui2 : UI) (f2 : Addr) (df2 : Addr) (rc2 : Addr) (rn2 : Nat) (nb2 : Addr) (no2 : Obj) (so2 : Obj) (uo2 : Obj) (tp2 : Tok) (w1 : Tok) (w2 : Tok) (w3 : Tok) (w4 : Tok) (w5 : Tok) (w6 : Tok) (w7 : Tok) (w8 : Tok) (w9 : Tok) (w10 : Tok) (fm2 : Str) (qb250 : Heap) (tk : Nat) (h5 : Heap) (tk5 : Nat) (g5 : Heap) (tz5 : Tok) (xs : List Value) (ds : List PyData) (cap5 : Nat) (i5 : Int) (t5 : Tok) (n5 : Nat) (rs2 : List (Addr × Obj)), lawB_s.1 qa0 qa1 qa2 qa3 qa4 qa7 qa8 qa9 qa10 qa11 qa22 qa23 qa25 qa26 qa28 qa34 qa35 qa36 qa37 qa38 qa48 qb52 qb53 qb54 qb59 qb60 qb62 qb63 qb64 qb65 qb66 qb67 qb68 qb69 qb73 qb74 t' v' tv' n' qb82 qb83 qb85 qb86 qb87 qb88 tfm tkf qb91 h' tk' x' d' sf' so' k' qb107 qb108 qb109 qb116 qb117 qb119 qb120 qb121 qb122 qb123 qb124 h1 tk1 u1 du1 ui1 f1 df1 rc1 rn1 nb1 no1 so1 uo1 tp1 q1 q2 q3 q4 q5 q6 q7 q8 q9 q10 qb161 qb162 h2 tk2 g2 p2 o2 i2 t2 n2 kvs rs1 h3 tk3 g3 p3 r3 v1 v2 v3 v4 rn3 qb195 qb196 qb197 qb198 h4 tk4 u2 du2 ui2 f2 df2 rc2 rn2 nb2 no2 so2 uo2 tp2 w1 w2 w3 w4 w5 w6 w7 w8 w9 w10 fm2 qb250 tk h5 tk5 g5 tz5 xs ds cap5 i5 t5 n5 rs2) _ _ _ _ _ _ _ _ _ _ _ _ _ _ _ _ _ _ _ _ _ _ _ _ _ _ _ _ _ _ _ _ _ _ _ _ _ _ _ _ _ _ _ _ _ _ _ _ _ _ _ _ _ _ _ _ _ _ _ _ _ _ _ _ _ _ _ _ _ _ _ _ _ _ _ _ _ _ _ _ _ _ _ _ _ _ _ _ _ _ _ _ _ _ _ _ _ _ _ _ _ _ _ _ _ _ _ _ _ _ _ _ _ _ _ _ _ _ _ _ _ _ _ _ _ _ _ _ _ _ _ _ _ _ _ _ _ _ _ _ _ _ _ _ _ _ _ _ _ _ _ _ _ _ _ 
  intro qa0 qa1 qa2 qa3 qa4 qa7 qa8 qa9 qa10 qa11 qa22 qa23 qa25 qa26 qa28 qa34 qa35 qa36 qa37 qa38 qa48 qb52 qb53 qb54 qb59 qb60 qb62 qb63 qb64 qb65 qb66 qb67 qb68 qb69 qb73 qb74 t' v' tv' n' qb82 qb83 qb85 qb86 qb87 qb88 tfm tkf qb91 h' tk' x' d' sf' so' k' qb107 qb108 qb109 qb116 qb117 qb119 qb120 qb121 qb122 qb123 qb124 h1 tk1 u1 du1 ui1 f1 df1 rc1 rn1 nb1 no1 so1 uo1 tp1 q1 q2 q3 q4 q5 q6 q7 q8 q9 q10 qb161 qb162 h2 tk2 g2 p2 o2 i2 t2 n2 kvs rs1 h3 tk3 g3 p3 r3 v1 v2 v3 v4 rn3 qb195 qb196 qb197 qb198 h4 tk4 u2 du2 ui2 f2 df2 rc2 rn2 nb2 no2 so2 uo2 tp2 w1 w2 w3 w4 w5 w6 w7 w8 w9 w10 fm2 qb250 tk h5 tk5 g5 tz5 xs ds cap5 i5 t5 n5 rs2 qa5 qa6 qa12 qa13 KX qa15 qa16 qa17 TT qa19 qa20 qa21 qa24 qa27 qa29 qa30 qa31 qa32 qa33 qa39 qa40 qa41 qa42 qa43 qa44 qa45 qa46 qa47 S B0 Rm qb55 qb56 qb57 qb58 qb61 qb70 qb71 qb72 h0' hv0' hv1' qb84 hd' lo' a1' a2' a3' b1' b2' b3' qb110 qb111 qb112 qb113 qb114 qb115 qb118 qb125 qb126 qb127 hno1 lo1 hso1 huo1 a4 a5 a6 hlen1 hlen2 B2 hd2 h02 X2 TT2 B3 z1 z2 z3 z4 X3 TT3 qb199 hno2 lo4 hso2 huo2 hfm qb230 qb231 a1 a2 a3 qb235 qb236 F2 N2 b3 qb240 qb241 qb242 qb243 c4 c5 c6 c1 c2 c3 qb251 qb252 T5 F5 B5 N5 hx0 hx8 hRD X5 TT5 O5 hKV2
  k_steps
  unfold Halt
  intro h6 tk6 g6 p6 r6 y1 y2 y3 y4 rn6 T6 F6 B6 N6 b6 m1 m2 m3 m4
  have X6 := S.X.keeps B6.stays
  have TT6 := S.T.keeps B6.stays
  (try dsimp only at N6)
  clear T5
  obtain ⟨d6, hd6, hd6'⟩ := num4 hKV2 z1 z2 z3 z4 m1 m2 m3 m4
  have Q1 := hd6 _ r3 rn3 (recHs N6 (by walk_at "my_sub")) (recHm N6 (by k_mem))
  have Q2 := hd6' _ r6 rn6 (recHs N6 (by walk_at "my_sub")) (recHm N6 (by k_mem))
  k_steps
  unfold Halt
  intro h7 tk7 tz7 T7a D7a cap7 ta7 g7 T7 F7 B7 N7 s1 s2 s3
  have X7 := S.X.keeps B7.stays
  have TT7 := S.T.keeps B7.stays
  (try dsimp only at N7)
  obtain ⟨w0, hw0⟩ : ∃ w0, xs[((0 : Int)).toNat]? = some w0 := ⟨_, List.getElem?_eq_getElem (show ((0 : Int)).toNat < xs.length from hx0)⟩
  clear T6 Q1 Q2 hd6 hd6'
  k_steps
  unfold Halt
  (rename KtsTurn _ _ _ => T8)
  (rename Below _ _ _ _ => B8)
  (rename News _ _ _ _ => N8)
  have X8 := S.X.keeps B8.stays
  have TT8 := S.T.keeps B8.stays
  (try dsimp only at N8)
  k_steps
  unfold Halt
  (rename KtsTurn _ _ _ => T9)
  (rename Below _ _ _ _ => B9)
  (rename News _ _ _ _ => N9)
  have X9 := S.X.keeps B9.stays
  have TT9 := S.T.keeps B9.stays
  (try dsimp only at N9)
  k_steps
  unfold Halt
  intro h10 tk10 uo10 F10 N10 hu10
  (try dsimp only at N10)
  k_steps
  unfold Halt
  intro h11 tk11 uo11 F11 N11 hu11
  (try dsimp only at N11)
  k_steps
  unfold Halt
  intro h12 tk12 u3 du3 ui3 uo12 tp12 F12 N12 hu12 j1 j2
  (try dsimp only at N12)
  have O121 := O5.new j2 (by walk_at "my_sub")
  have O122 := O121.new j1 (by walk_at "my_sub")
  clear O5 O121
  k_steps
  unfold Halt
  intro h13 tk13 u4 du4 ui4 uo13 tp13 F13 N13 hu13 j3 j4
  (try dsimp only at N13)
  have O131 := O122.new j4 (by walk_at "my_sub")
  have O132 := O131.new j3 (by walk_at "my_sub")
  clear O122 O131
  k_steps
  unfold Halt
  intro h14 tk14 g14 p14 r14 x1 x2 x3 x4 rn14 T14 F14 B14 N14 b14 m5 m6 m7 m8
  have X14 := S.X.keeps B14.stays
  have TT14 := S.T.keeps B14.stays
  (try dsimp only at N14)
  obtain ⟨d14, hd14, hd14'⟩ := num4 hKV2 z1 z2 z3 z4 m5 m6 m7 m8
  have Q3 := hd14 _ r3 rn3 (recHs N14 (by walk_at "my_sub")) (recHm N14 (by k_mem))
  have Q4 := hd14' _ r14 rn14 (recHs N14 (by walk_at "my_sub")) (recHm N14 (by k_mem))
  k_steps
  unfold Halt
  intro h15 tk15 tz15 T15a D15a cap15 ta15 g15 T15 F15 B15 N15 s4 s5 s6
  have X15 := S.X.keeps B15.stays
  have TT15 := S.T.keeps B15.stays
  (try dsimp only at N15)
  have Q5 := recPairA' hRD (recHm N15 (by k_mem : (T7a, tupO [.ref D7a, .int 17 ta7]) ∈ _)) (recHm N15 (by k_mem : (D7a, listOf xs.toArray cap7) ∈ _)) (recHs N15 (by walk_at "my_sub"))
  have Q6 := recPairA' hRD (recHm N15 (by k_mem : (T15a, tupO [.ref D15a, .int 17 ta15]) ∈ _)) (recHm N15 (by k_mem : (D15a, listOf xs.toArray cap15) ∈ _)) (recHs N15 (by walk_at "my_sub"))
  k_steps
  (rename Fr _ _ _ _ => F16)
  (rename Shared.gens _ = _ => hgens)
  exact goodW_bool (fr_start T15 F16) hgens (fun _ => rfl) (law_post _)
theorem lawA_k : lawA_q lawA_c :=
  lawB_s.2 fun qa0 qa1 qa2 qa3 qa4 qa7 qa8 qa9 qa10 qa11 qa22 qa23 qa25 qa26 qa28 qa34 qa35 qa36 qa37 qa38 qa48 qb52 qb53 qb54 qb59 qb60 qb62 qb63 qb64 qb65 qb66 qb67 qb68 qb69 qb73 qb74 t' v' tv' n' qb82 qb83 qb85 qb86 qb87 qb88 tfm tkf qb91 h' tk' x' d' sf' so' k' qb107 qb108 qb109 qb116 qb117 qb119 qb120 qb121 qb122 qb123 qb124 h1 tk1 u1 du1 ui1 f1 df1 rc1 rn1 nb1 no1 so1 uo1 tp1 q1 q2 q3 q4 q5 q6 q7 q8 q9 q10 qb161 qb162 h2 tk2 g2 p2 o2 i2 t2 n2 kvs rs1 h3 tk3 g3 p3 r3 v1 v2 v3 v4 rn3 qb195 qb196 qb197 qb198 h4 tk4 u2 du2 ui2 f2 df2 rc2 rn2 nb2 no2 so2 uo2 tp2 w1 w2 w3 w4 w5 w6 w7 w8 w9 w10 fm2 qb250 tk h5 tk5 g5 tz5 xs ds cap5 i5 t5 n5 rs2 => hk_ax (P := lawB_q) _ lawB_k ((((((((qa0, qa1), qa2), (qa3, qa4)), (((qa7, qa8), qa9), (qa10, qa11))), ((((qa22, qa23), qa25), (qa26, qa28)), (((qa34, qa35), qa36), (qa37, qa38)))), (((((qa48, qb52), qb53), (qb54, qb59)), (((qb60, qb62), qb63), (qb64, qb65))), ((((qb66, qb67), qb68), (qb69, qb73)), ((qb74, t'), (v', tv'))))), ((((((n', qb82), qb83), (qb85, qb86)), (((qb87, qb88), tfm), (tkf, qb91))), ((((h', tk'), x'), (d', sf')), (((so', k'), qb107), (qb108, qb109)))), (((((qb116, qb117), qb119), (qb120, qb121)), (((qb122, qb123), qb124), (h1, tk1))), ((((u1, du1), ui1), (f1, df1)), ((rc1, rn1), (nb1, no1)))))), (((((((so1, uo1), tp1), (q1, q2)), (((q3, q4), q5), (q6, q7))), ((((q8, q9), q10), (qb161, qb162)), (((h2, tk2), g2), (p2, o2)))), (((((i2, t2), n2), (kvs, rs1)), (((h3, tk3), g3), (p3, r3))), ((((v1, v2), v3), (v4, rn3)), ((qb195, qb196), (qb197, qb198))))), ((((((h4, tk4), u2), (du2, ui2)), (((f2, df2), rc2), (rn2, nb2))), ((((no2, so2), uo2), (tp2, w1)), ((w2, w3), (w4, w5)))), (((((w6, w7), w8), (w9, w10)), (((fm2, qb250), tk), (h5, tk5))), ((((g5, tz5), xs), (ds, cap5)), ((i5, t5), (n5, rs2)))))))
theorem lawHolds : PySem.Challenge.rw_sa0211_01.Holds :=
  lawA_s.2 fun qa0 qa1 qa2 qa3 qa4 qa7 qa8 qa9 qa10 qa11 qa22 qa23 qa25 qa26 qa28 qa34 qa35 qa36 qa37 qa38 qa48 => hk_ax (P := lawA_q) _ lawA_k (((((qa0, qa1), qa2), ((qa3, qa4), qa7)), (((qa8, qa9), qa10), (qa11, qa22))), ((((qa23, qa25), qa26), (qa28, qa34)), (((qa35, qa36), qa37), (qa38, qa48))))
end
end
end Mine
set_option maxHeartbeats 8000000 in
theorem PySem.Challenge.cw_sa0211_01_holds : PySem.Challenge.rw_sa0211_01.Holds :=
  Mine.lawHolds
