import PyProof.Rows.All
import Wide.All
import OpenK.AllK
import Wide.FinOn
import PySem.Challenge.RW_ok0141_01
open PySem PySem.W PyProof.Rows PySem.Calls PySem.Spec
set_option Elab.async false
set_option maxRecDepth 100000
set_option maxHeartbeats 8000000
set_option linter.unusedVariables false
set_option rowWalk.seconds 0
namespace Mine
section
/-- the top's run upon a tree of objects -/
noncomputable def topRunT (tb : String → Option Builtin) (p : Program) (w : World) (n₀ : Nat) (ann : Option Value) : Nat → SharedT → Thread → Option SharedT
  | 0, _, _ => none
  | n + 1, s, t => match through t with
    | true => some s
    | false => match stepOk n₀ ann t with
      | false => none
      | true => match stepT (denote tb) p w s t with
        | some (s', t') => topRunT tb p w n₀ ann n s' t'
        | none => none
theorem topRun_of {tb : String → Option Builtin} {p : Program} {w : World} {n₀ : Nat} {ann : Option Value} : ∀ {n : Nat} {s s' : SharedT} {t : Thread}, topRunT tb p w n₀ ann n s t = some s' → topRun tb p w n₀ ann n s.abs t = some s'.abs
  | 0, _, _, _, h => by cases h
  | n + 1, s, s', t, h => by
    unfold topRunT at h
    unfold topRun
    cases he : through t with
    | true => rw [he] at h; cases h; rfl
    | false =>
      rw [he] at h
      cases hk : stepOk n₀ ann t with
      | false => rw [hk] at h; cases h
      | true =>
        rw [hk] at h
        cases hs : stepT (denote tb) p w s t with
        | none => rw [hs] at h; cases h
        | some r => obtain ⟨s₂, t₂⟩ := r; rw [hs] at h; rw [stepT_spec hs]; exact topRun_of h
/-- a tree of a list -/
noncomputable def btOf : Nat → BT → List Obj → BT
  | _, t, [] => t
  | n, t, o :: r => btOf (n + 1) (t.ins n o) r
/-- the head's left side by one run upon a tree -/
theorem left_of_T {p q : Program} {loose : List Str} {Xt : Shared → Bool} {α : Type} {Yf : Shared → α} {Ya : World → α} {N : Nat} {g0 : Bool} {H₀ : Params → Heap} {T₀ : Params → BT} {n₀ : Nat} {life : Life} {gs₀ : Array GenState} {d₀ : Drawn} {k₀ : Nat} {ann : Option Value}
  (open_ : ∀ w : World, (fencedOpening treeTable p w N).map (fun s => (s.heap, s.gens, s.drawn, s.toks)) = some (H₀ w.params, gs₀, d₀, k₀))
  (size : ∀ w : World, ((H₀ w.params).isNs mainGlobals && gs₀.size == 0, (H₀ w.params).objs.size, (H₀ w.params).nsMap mainGlobals "__annotations__") = (true, n₀, ann))
  (tree : ∀ w : World, absHeap (T₀ w.params) n₀ life = H₀ w.params)
  (run : ∀ (w : World) (os : OsState), (topRunT treeTable p w n₀ ann N ⟨T₀ w.params, n₀, life, gs₀, d₀, k₀, os⟩ (topStub p)).map (fun s => ((staticsOk (importedModules p.main.body) (H₀ w.params) s.abs.heap && namesBound p s.abs.heap && gensDone s.abs && laidKept (H₀ w.params) s.abs.heap), openSeen q loose (importedModules p.main.body) Xt g0 s.abs, Yf s.abs)) = some (true, openGood q loose, Ya w)) : LeftO p q loose Xt Yf Ya N g0 := fun w => by
  obtain ⟨⟨h, gs, d, k, os⟩, e, e'⟩ := Option.map_eq_some_iff.mp (open_ w)
  obtain ⟨rfl, rfl, rfl, rfl⟩ : h = H₀ w.params ∧ gs = gs₀ ∧ d = d₀ ∧ k = k₀ := by simpa using e'
  obtain ⟨z1, z2, z3⟩ : _ ∧ _ ∧ _ := by simpa only [Prod.mk.injEq] using size w
  obtain ⟨s', r, l⟩ := Option.map_eq_some_iff.mp (run w os)
  obtain ⟨l1, l2, l3⟩ : _ ∧ _ ∧ _ := by simpa only [Prod.mk.injEq] using l
  have r' : topRun treeTable p w n₀ ann N ⟨H₀ w.params, gs, d, k, os⟩ (topStub p) = some s'.abs := by
    rw [← tree w]; exact topRun_of r
  have t : topFrom treeTable p w N ⟨H₀ w.params, gs, d, k, os⟩ = some s'.abs := by
    unfold topFrom
    dsimp only
    rw [z1, z2, z3, r']
    show (match staticsOk (importedModules p.main.body) (H₀ w.params) s'.abs.heap && namesBound p s'.abs.heap && gensDone s'.abs && laidKept (H₀ w.params) s'.abs.heap with | true => _ | false => _) = _
    rw [l1]
  unfold openEnds
  rw [e]
  show (topFrom treeTable p w N _).map _ = _
  rw [t]
  exact congrArg some (Prod.ext l2 l3)
noncomputable def bootT (P : Params) : BT := btOf 0 .nil (boot_heap P).objs.toList
def viewK : Program := view PySem.Challenge.rw_ok0141_01.row.toRowW.1 [0, 2, 3, 5, 6, 8, 9, 10, 12, 13, 15, 16, 17, 19, 20, 21, 23, 24, 26, 27, 28, 29, 30, 31]
theorem boot_tree : ∀ w : World, absHeap (bootT w.params) 11 {} = boot_heap w.params := fun w => by kernel_rfl
theorem boot_size : ∀ w : World, ((boot_heap w.params).isNs mainGlobals && (Array.mk [] : Array GenState).size == 0, (boot_heap w.params).objs.size, (boot_heap w.params).nsMap mainGlobals "__annotations__") = (true, 11, some (.ref 6)) := fun w => by kernel_rfl
theorem boot_fenced : ∀ w : World, (fencedOpening treeTable PySem.Challenge.rw_ok0141_01.row.toRowW.1 w 5244).map (fun s => (s.heap, s.gens, s.drawn, s.toks)) = some (boot_heap w.params, Array.mk [], boot_drawn, boot_toks) :=
  boot_open (by kernel_rfl) (by decide) (fun s => by kernel_rfl)
theorem ws : OpenLaw.wellSaid PySem.Challenge.rw_ok0141_01 = true := by kernel_rfl
theorem holds_K (H : Hook) {d : DefRec} {kwd : List (Str × Expr)}
    (left : LeftO PySem.Challenge.rw_ok0141_01.row.toRowW.1 viewK [PySem.Str.ofString "CHROMA"] (fun s => xlAt viewK [] s && recOk (RowW.records PySem.Challenge.rw_ok0141_01.row.toRowW) s) H.obs H.val 5244)
    (hdef : defOf viewK PySem.Challenge.rw_ok0141_01.row.name = some (d, kwd)) (hp : PySem.Challenge.rw_ok0141_01.row.prog.theDef PySem.Challenge.rw_ok0141_01.row.name = some (d.params, d.body, d.scope)) (hk : kwWritten? d.params.kwonlyargs d.params.kw_defaults = some kwd)
    (hw : PySem.Challenge.rw_ok0141_01.row.toRowW.promised) (call : WalkO viewK [PySem.Str.ofString "CHROMA"] (XL viewK []) H.says PySem.Challenge.rw_ok0141_01.row.toRowW d kwd fun f vs => PySem.call f vs) : PySem.Challenge.rw_ok0141_01.row.Holds :=
  holds_open (q := viewK) (loose := [PySem.Str.ofString "CHROMA"]) (Xt := fun s => xlAt viewK [] s && recOk (RowW.records PySem.Challenge.rw_ok0141_01.row.toRowW) s) (XP := XL viewK []) (Yf := H.obs) (Ya := H.val) (YP := H.says) (N := 5244) left
    H.of H.keeps (fun s e => xl_of s (Bool.and_eq_true_iff.mp e).1) XL.keeps hdef hp hk (fun s e => recFacts_of (Bool.and_eq_true_iff.mp e).2) (by rfl) (row_said ws) (by decide +kernel) ⟨rfl, rfl, rfl, rfl, rfl, by decide +kernel⟩ hw call
section
local macro_rules | `(tactic| o_head $_) => `(tactic| assumption)
/-- only the heap's written part is wanted of this one: pre.heap_1 -/
theorem pre (h : PySem.Challenge.rw_ok0141_01.row.Holds) : PySem.Challenge.rw_ok0141_01.row.Holds := by
  w_on
  k_head
end
noncomputable def hookK : Hook := kHook pre.heap_1 [2, 3, 15, 17, 18, 20, 21, 22, 23, 24, 25, 27, 28, 30, 31, 32, 39, 41, 42, 44, 45, 46, 47, 48, 49, 52, 59, 60, 61, 71, 73, 74, 76, 77, 78, 80, 81, 83, 84, 85, 87, 88, 90, 91, 92, 93, 94, 95, 96, 106, 108, 109, 111, 112, 113, 116, 117, 118, 121, 122, 123, 125, 126, 128, 129, 130, 131, 132, 133, 134, 137, 139, 140, 142, 143, 144, 146, 147, 149, 150, 151, 153, 154, 156, 157, 158, 160, 161, 163, 164, 172, 174, 175, 177, 178, 179, 180, 181, 182, 183, 193, 195, 196, 198, 199, 200, 203, 204, 205, 208, 209, 210, 212, 213, 215, 216, 217, 219, 220, 222, 223, 224, 226, 227, 229, 230, 231, 233, 234, 236, 237, 238, 240, 241, 243, 244, 245, 246, 247, 248, 249, 252, 254, 255, 257, 258, 259, 261, 262, 264, 265, 266, 269, 270, 271, 279, 280, 282, 283, 285, 286, 287, 288, 289, 290, 291, 294, 296, 297, 299, 300, 301, 303, 304, 306, 307, 308, 310, 311, 313, 314, 315, 318, 319, 320, 322, 323, 325, 326, 327, 330, 331] (fun _ => by kernel_rfl)
def RunK (w : World) : Prop := ∀ os : OsState, (topRunT treeTable PySem.Challenge.rw_ok0141_01.row.toRowW.1 w 11 (some (.ref 6)) 5244 ⟨bootT w.params, 11, {}, Array.mk [], boot_drawn, boot_toks, os⟩ (topStub PySem.Challenge.rw_ok0141_01.row.toRowW.1)).map (fun s => ((staticsOk (importedModules PySem.Challenge.rw_ok0141_01.row.toRowW.1.main.body) (boot_heap w.params) s.abs.heap && namesBound PySem.Challenge.rw_ok0141_01.row.toRowW.1 s.abs.heap && gensDone s.abs && laidKept (boot_heap w.params) s.abs.heap), openSeen viewK [PySem.Str.ofString "CHROMA"] (importedModules PySem.Challenge.rw_ok0141_01.row.toRowW.1.main.body) (fun s => xlAt viewK [] s && recOk (RowW.records PySem.Challenge.rw_ok0141_01.row.toRowW) s) true s.abs, hookK.obs s.abs)) = some (true, openGood viewK [PySem.Str.ofString "CHROMA"], hookK.val w)
theorem runF (w : World) : RunK (w.withFollow "special-get-raises" false) := by
  intro os
  kernel_rfl
theorem runT (w : World) : RunK (w.withFollow "special-get-raises" true) := by
  intro os
  kernel_rfl
theorem left_K : LeftO PySem.Challenge.rw_ok0141_01.row.toRowW.1 viewK [PySem.Str.ofString "CHROMA"] (fun s => xlAt viewK [] s && recOk (RowW.records PySem.Challenge.rw_ok0141_01.row.toRowW) s) hookK.obs hookK.val 5244 :=
  left_of_T boot_fenced boot_size boot_tree (byRow2 (P := RunK) "special-get-raises" runF runT)
local macro_rules | `(tactic| o_law) => `(tactic| refine holds_law ws fun said => ?_)
local macro_rules | `(tactic| o_head $H) => `(tactic| refine holds_K $H left_K (by rfl) (by rfl) (by rfl) ?hw ?hc)
open_top hd for PySem.Challenge.rw_ok0141_01
end
local macro_rules | `(tactic| walk_at $s:str) => `(tactic| k_extra $s)
local macro_rules | `(tactic| k_all) => `(tactic| k_extra "k_all")
local macro_rules | `(tactic| size_fits) => `(tactic| k_extra "size_fits")
local macro_rules | `(tactic| ktr_enter) => `(tactic| k_extra "ktr_enter")
local macro_rules | `(tactic| dictfold_shaped2) => `(tactic| k_extra "dictfold_shaped2")
local macro_rules | `(tactic| mul_fits) => `(tactic| k_extra "mul_fits")
local macro_rules | `(tactic| lcg_sub) => `(tactic| k_extra "lcg_sub")
local macro_rules | `(tactic| k_ne) => `(tactic| k_extra "k_ne")
local macro_rules | `(tactic| ktr_rel) => `(tactic| k_extra "ktr_rel")
local macro_rules | `(tactic| k_mem) => `(tactic| ktr_rel)
local macro_rules | `(tactic| k_room) => `(tactic| ktr_room)
local macro_rules | `(tactic| units_room) => `(tactic| ktr_units)
local macro_rules | `(tactic| k_qdec) => `(tactic| kernel_rfl)
section
theorem kwB1_1 : True := by
  w_top off
  k_with_none
  (k_with "andf" => (first | assumption | exact And.left (by assumption) | exact And.left (And.right (by assumption)) | exact And.left (And.right (And.right (by assumption))) | exact And.left (And.right (And.right (And.right (by assumption)))) | exact And.left (And.right (And.right (And.right (And.right (by assumption))))) | exact And.left (And.right (And.right (And.right (And.right (And.right (by assumption)))))) | exact And.left (And.right (And.right (And.right (And.right (And.right (And.right (by assumption))))))) | exact And.left (And.right (And.right (And.right (And.right (And.right (And.right (And.right (by assumption)))))))) | exact And.left (And.right (And.right (And.right (And.right (And.right (And.right (And.right (And.right (by assumption))))))))) | exact And.left (And.right (And.right (And.right (And.right (And.right (And.right (And.right (And.right (And.right (by assumption)))))))))) | exact And.left (And.right (And.right (And.right (And.right (And.right (And.right (And.right (And.right (And.right (And.right (by assumption))))))))))) | exact And.left (And.right (And.right (And.right (And.right (And.right (And.right (And.right (And.right (And.right (And.right (And.right (by assumption)))))))))))) | exact And.left (And.right (And.right (And.right (And.right (And.right (And.right (And.right (And.right (And.right (And.right (And.right (And.right (by assumption))))))))))))) | exact And.left (And.right (And.right (And.right (And.right (And.right (And.right (And.right (And.right (And.right (And.right (And.right (And.right (And.right (by assumption))))))))))))))))
  (k_with "k_ne" => ((refine neN ?_; (try dsimp only); first | assumption | exact fun kwe9 => absurd kwe9.symm (by assumption) | exact ne_up1 | exact up_ne1 | exact ne_up2 | exact up_ne2 | exact ne_up3 | exact up_ne3 | exact ne_up4 | exact up_ne4 | exact ne_up5 | exact up_ne5 | exact ne_up6 | exact up_ne6 | exact ne_up7 | exact up_ne7 | exact Nat.ne_of_gt (by k_extra "andf") | exact Nat.ne_of_lt (by k_extra "andf") | omega)))
  (k_with "ktr_rel" => (first | exact List.mem_cons_self | ktr_member | (refine List.mem_cons_of_mem _ ?_; ktr_rel) | (refine List.mem_append.mpr (Or.inl ?_); ktr_rel) | (refine List.mem_append.mpr (Or.inr ?_); ktr_rel)))
  trivial
theorem ne_up1 {n : Nat} : n ≠ n + 1 := by omega
theorem up_ne1 {n : Nat} : n + 1 ≠ n := by omega
theorem ne_up2 {n : Nat} : n ≠ n + 1 + 1 := by omega
theorem up_ne2 {n : Nat} : n + 1 + 1 ≠ n := by omega
theorem ne_up3 {n : Nat} : n ≠ n + 1 + 1 + 1 := by omega
theorem up_ne3 {n : Nat} : n + 1 + 1 + 1 ≠ n := by omega
theorem ne_up4 {n : Nat} : n ≠ n + 1 + 1 + 1 + 1 := by omega
theorem up_ne4 {n : Nat} : n + 1 + 1 + 1 + 1 ≠ n := by omega
theorem ne_up5 {n : Nat} : n ≠ n + 1 + 1 + 1 + 1 + 1 := by omega
theorem up_ne5 {n : Nat} : n + 1 + 1 + 1 + 1 + 1 ≠ n := by omega
theorem ne_up6 {n : Nat} : n ≠ n + 1 + 1 + 1 + 1 + 1 + 1 := by omega
theorem up_ne6 {n : Nat} : n + 1 + 1 + 1 + 1 + 1 + 1 ≠ n := by omega
theorem ne_up7 {n : Nat} : n ≠ n + 1 + 1 + 1 + 1 + 1 + 1 + 1 := by omega
theorem up_ne7 {n : Nat} : n + 1 + 1 + 1 + 1 + 1 + 1 + 1 ≠ n := by omega
/-- a grid of ints as a datum -/
def rowD (r : List Int) : Dat := .list (r.map Dat.int)
def gD (rows : List (List Int)) : Dat := .list (rows.map rowD)
abbrev ent (h : Int) (k : String) (t : Tok) (v : Value) : DictEntry := ⟨h, .str (Str.ofString k) t, v⟩

/-- a grid of the size hg by wd, neither nought -/
structure Grid (wd hg : Nat) (rows : List (List Int)) : Prop where
  len : rows.length = hg
  row : ∀ r ∈ rows, r.length = wd
  wpos : 0 < wd
  hpos : 0 < hg

/-- the sample at a place, edges repeated (places not below nought) -/
def keptN (p s : Int) : Int := if p < 0 then 0 else if p < s then p else s - 1
def cellG (rows : List (List Int)) (y x : Nat) : Int := (rows.getD y []).getD x 0

theorem datAll_ints {Z : List (Addr × Obj)} : ∀ {vs : List Value} {ns : List Int}, DatAll Z vs (ns.map Dat.int) → IntsAre vs ns
  | [], [], _ => .nil
  | [], _ :: _, h => by cases h
  | _ :: _, [], h => by cases h
  | v :: vs, n :: ns, h => by
    cases h with
    | cons h r => cases h with
      | int i t => exact .cons _ _ (datAll_ints r)
theorem ints_datAll {Z : List (Addr × Obj)} : ∀ {vs : List Value} {ns : List Int}, IntsAre vs ns → DatAll Z vs (ns.map Dat.int)
  | _, _, .nil => .nil
  | _, _, .cons n t r => .cons (.int n t) (ints_datAll r)

/-- what the ledger bears at a row -/
theorem row_open {Z : List (Addr × Obj)} {v : Value} {r : List Int} (h : DatIn Z v (rowD r)) : ∃ a vs n, v = .ref a ∧ (a, listOf vs.toArray n) ∈ Z ∧ IntsAre vs r := by
  unfold rowD at h
  cases h with
  | list hm hr => exact ⟨_, _, _, rfl, hm, datAll_ints hr⟩
theorem grid_open {Z : List (Addr × Obj)} {v : Value} {g : List (List Int)} (h : DatIn Z v (gD g)) : ∃ a vs n, v = .ref a ∧ (a, listOf vs.toArray n) ∈ Z ∧ DatAll Z vs (g.map rowD) := by
  unfold gD at h
  cases h with
  | list hm hr => exact ⟨_, _, _, rfl, hm, hr⟩
theorem row_at {Z : List (Addr × Obj)} {vs : List Value} {g : List (List Int)} (h : DatAll Z vs (g.map rowD)) {k : Nat} (hk : k < g.length) : ∃ v, vs[k]? = some v ∧ DatIn Z v (rowD (g.getD k [])) := by
  obtain ⟨v, hv, hd⟩ := h.get (k := k) (by simpa using hk)
  refine ⟨v, hv, ?_⟩
  have e : (g.map rowD)[k]'(by simpa using hk) = rowD (g.getD k []) := by simp [List.getD_eq_getElem?_getD, List.getElem?_eq_getElem hk]
  rw [← e]; exact hd
theorem int_at {vs : List Value} {ns : List Int} (h : IntsAre vs ns) {k : Nat} (hk : k < ns.length) : ∃ t, vs[k]? = some (.int (ns.getD k 0) t) := by
  obtain ⟨t, ht⟩ := h.get k (ns[k]'hk) (List.getElem?_eq_getElem hk)
  exact ⟨t, by rw [ht]; simp [List.getD_eq_getElem?_getD, List.getElem?_eq_getElem hk]⟩

/-- a Plane on the ledger -/
structure PlaneAt (Z : List (Addr × Obj)) (x : Addr) (wd hg : Nat) (rows : List (List Int)) : Prop where
  ex : ∃ dx h1 t1 h2 t2 h3 t3 n tw th vr, (x, instObj 94 dx) ∈ Z ∧ (dx, dictOf [ent h1 "width" t1 (.int wd tw), ent h2 "height" t2 (.int hg th), ent h3 "rows" t3 vr] n) ∈ Z ∧ DatIn Z vr (gD rows)
  ok : Grid wd hg rows
theorem PlaneAt.mono {Z Z' : List (Addr × Obj)} {x : Addr} {wd hg : Nat} {rows : List (List Int)} (h : PlaneAt Z x wd hg rows) (k : ∀ p ∈ Z, p ∈ Z') : PlaneAt Z' x wd hg rows := by
  obtain ⟨⟨dx, h1, t1, h2, t2, h3, t3, n, tw, th, vr, a, b, c⟩, ok⟩ := h
  exact ⟨⟨dx, h1, t1, h2, t2, h3, t3, n, tw, th, vr, k _ a, k _ b, c.mono k⟩, ok⟩
theorem PlaneAt.elim {Z : List (Addr × Obj)} {x : Addr} {wd hg : Nat} {rows : List (List Int)} {P : Prop} (h : PlaneAt Z x wd hg rows) (k : ∀ dx h1 t1 h2 t2 h3 t3 n tw th vr, (x, instObj 94 dx) ∈ Z → (dx, dictOf [ent h1 "width" t1 (.int wd tw), ent h2 "height" t2 (.int hg th), ent h3 "rows" t3 vr] n) ∈ Z → DatIn Z vr (gD rows) → Grid wd hg rows → P) : P := by
  obtain ⟨⟨dx, h1, t1, h2, t2, h3, t3, n, tw, th, vr, a, b, c⟩, ok⟩ := h
  exact k dx h1 t1 h2 t2 h3 t3 n tw th vr a b c ok
def two (b : Bool) : Int := if b then 2 else 1
def hlf (n : Nat) (h : Bool) : Nat := if h then (n + 1) / 2 else n
theorem hlf_pos {n : Nat} {h : Bool} (k : 0 < n) : 0 < hlf n h := by unfold hlf; split <;> omega
theorem hlf_lt {n : Nat} {h : Bool} (k : n < 1000) : hlf n h < 1000 := by unfold hlf; split <;> omega
def minI (p : Int) (n : Nat) : Int := if p < (n : Int) - 1 then p else (n : Int) - 1
def cellL (rows : List (List Int)) (wd hg : Nat) (py px : Int) : Int := cellG rows (minI py hg).toNat (minI px wd).toNat
def totL (rows : List (List Int)) (wd hg : Nat) (y x : Int) : Bool → Bool → Int
  | false, false => 0 + cellL rows wd hg (y * 1 + 0) (x * 1 + 0)
  | true, false => 0 + cellL rows wd hg (y * 1 + 0) (x * 2 + 0) + cellL rows wd hg (y * 1 + 0) (x * 2 + 1)
  | false, true => 0 + cellL rows wd hg (y * 2 + 0) (x * 1 + 0) + cellL rows wd hg (y * 2 + 1) (x * 1 + 0)
  | true, true => 0 + cellL rows wd hg (y * 2 + 0) (x * 2 + 0) + cellL rows wd hg (y * 2 + 0) (x * 2 + 1) + cellL rows wd hg (y * 2 + 1) (x * 2 + 0) + cellL rows wd hg (y * 2 + 1) (x * 2 + 1)
def meanL (rows : List (List Int)) (wd hg : Nat) (ac dn : Bool) (y x : Int) : Int := (2 * totL rows wd hg y x ac dn + two ac * two dn).fdiv (2 * two ac * two dn)
def cellK (rows : List (List Int)) (wd hg : Nat) (px py : Int) : Int := cellG rows (keptN py hg).toNat (keptN px wd).toNat
def totH (rows : List (List Int)) (wd hg : Nat) (y x : Int) : Bool → Bool → Int
  | false, false => 0 + cellK rows wd hg (x * 1 + 0) (y * 1 + 0)
  | true, false => 0 + cellK rows wd hg (x * 2 + 0) (y * 1 + 0) + cellK rows wd hg (x * 2 + 1) (y * 1 + 0)
  | false, true => 0 + cellK rows wd hg (x * 1 + 0) (y * 2 + 0) + cellK rows wd hg (x * 1 + 0) (y * 2 + 1)
  | true, true => 0 + cellK rows wd hg (x * 2 + 0) (y * 2 + 0) + cellK rows wd hg (x * 2 + 1) (y * 2 + 0) + cellK rows wd hg (x * 2 + 0) (y * 2 + 1) + cellK rows wd hg (x * 2 + 1) (y * 2 + 1)
def meanH (rows : List (List Int)) (wd hg : Nat) (ac dn : Bool) (y x : Nat) : Int :=
  (totH rows wd hg y x ac dn + (two ac * two dn).fdiv 2).fdiv (two ac * two dn)
def halvedG (rows : List (List Int)) (wd hg : Nat) (ac dn : Bool) : List (List Int) :=
  (List.range (hlf hg dn)).map fun y => (List.range (hlf wd ac)).map (meanH rows wd hg ac dn y)

section
variable {prog : Program} {w : World} {A : Around} {E : Value → Shared → Prop} {s : Shared} {h₀ : Heap} {L : Addr} {news : List (Addr × Obj)} {Q : Value → Shared → Prop}
/-- an item of a list of the ledger, at a place in bounds -/
theorem item_led {value slice : PySem.Expr} {l : Addr} {vs : List Value} {n : Nat} {k : Int} {u : Tok} {v : Value}
    (N : News h₀ L s.heap news) (hm : (l, listOf vs.toArray n) ∈ news) (h0 : 0 ≤ k) (hhi : k < 2 ^ 63) (hx : vs[k.toNat]? = some v) (h : Q v s)
    (hs : subscripted slice false (.ref l) (.int k u) = operate [.ref l, .int k u] (getItem (.ref l) (.int k u)) := by with_unfolding_all rfl) :
    wpAny (model prog w) A (subscriptTail value slice (.ref l) (.int k u)) Q E s := by
  have hl : s.heap.IsList l vs.toArray := ⟨_, N.get hm, rfl, n, rfl⟩
  exact tail_any hl.typeIs slot_list_getitem.lookup (wpAny_getItem_list hl h0 hhi (by simpa using hx) h) hs
/-- a row of a grid of the ledger -/
theorem item_rows {value slice : PySem.Expr} {l : Addr} {vs : List Value} {n : Nat} {k : Int} {u : Tok} {wd hg : Nat} {g : List (List Int)} {Z : List (Addr × Obj)}
    (N : News h₀ L s.heap news) (hm : (l, listOf vs.toArray n) ∈ news) (hd : DatAll Z vs (g.map rowD)) (ok : Grid wd hg g) (h0 : 0 ≤ k) (hk : k < (hg : Int)) (hb : hg < 1000000)
    (h : ∀ a us e, (a, listOf us.toArray e) ∈ Z → IntsAre us (g.getD k.toNat []) → us.length = wd → (g.getD k.toNat []).length = wd → Q (.ref a) s)
    (hs : subscripted slice false (.ref l) (.int k u) = operate [.ref l, .int k u] (getItem (.ref l) (.int k u)) := by with_unfolding_all rfl) :
    wpAny (model prog w) A (subscriptTail value slice (.ref l) (.int k u)) Q E s := by
  have hk' : k.toNat < g.length := by rw [ok.len]; omega
  obtain ⟨v, hv, hr⟩ := row_at hd hk'
  obtain ⟨a, us, e, rfl, hm', hi⟩ := row_open hr
  have e2 : (g.getD k.toNat []).length = wd := ok.row _ (by rw [List.getD_eq_getElem?_getD, List.getElem?_eq_getElem hk']; exact List.getElem_mem hk')
  exact item_led N hm h0 (by omega) hv (h a us e hm' hi (by rw [hi.length, e2]) e2) hs
theorem len_led {l : Addr} {us : List Value} {n k : Nat} (N : News h₀ L s.heap news) (hm : (l, listOf us.toArray n) ∈ news) (hl : us.length = k) (hk : k < 1000000)
    (h : Q (.int (k : Int) (s.toks + 1)) { s with toks := s.toks + 1 + 1 }) : wpAny (model prog w) A (call (.builtin "len") [.ref l]) Q E s := by
  subst hl
  have hl : s.heap.IsList l us.toArray := ⟨_, (N _ hm).1, rfl, n, rfl⟩
  have e : us.toArray.size = us.length := by rw [List.size_toArray]
  exact len_list hl (by rw [e]; omega) (by rw [e]; exact h)
end
theorem keptN_lt {p : Int} {s : Nat} (h : 0 < s) : 0 ≤ keptN p s ∧ (keptN p s).toNat < s ∧ keptN p s < s := by
  unfold keptN
  split
  · omega
  · split <;> omega
theorem size_nat (n : Nat) : Builtin.Range.rangeSize 0 (n : Int) 1 = (n : Int) := by
  unfold Builtin.Range.rangeSize
  simp only [show (1 : Int) > 0 by decide, if_true]
  split <;> omega
theorem small_nat {n : Nat} (h : n < 100000) : Builtin.Range.small 0 (n : Int) 1 = true := by
  unfold Builtin.Range.small
  rw [size_nat]
  unfold Builtin.Range.rangeFitsLong
  simp only [Bool.and_eq_true, Bool.or_eq_true, decide_eq_true_eq, beq_iff_eq]
  simp only [show ((1 : Int) > 0) from by decide, if_true, Bool.and_eq_true, decide_eq_true_eq]
  omega
theorem bits_small {a : Int} (h1 : 0 ≤ a) (h2 : a < 18446744073709551616) : Builtin.Int.intBits a ≤ 64 := by
  refine intBits_le_iff.mpr ?_
  show a.natAbs < 18446744073709551616
  omega
/-- the names of a loop's turn: the loop's own, those that it stores, those ahead -/
abbrev fT (x : Str) (v : Value) (stored : List Str) (u m₀ : Str → Option Value) : Str → Option Value := fun y => if y = x then some v else if stored.contains y then u y else m₀ y
abbrev fD (x : Str) (stored : List Str) (u m₀ : Str → Option Value) : Str → Option Value := fun y => if (x :: stored).contains y then u y else m₀ y
def Agree (stored : List Str) (x : Str) (m m₀ : Str → Option Value) : Prop := ∀ z, z ≠ x → stored.contains z = false → m z = m₀ z
theorem Agree.turn {stored : List Str} {x : Str} {m m₀ : Str → Option Value} {v : Value} (h : Agree stored x m m₀) : (fun y => if y = x then some v else m y) = fT x v stored m m₀ := by
  funext y
  by_cases hy : y = x
  · simp [hy]
  · simp only [if_neg hy]
    cases hs : stored.contains y with
    | true => simp
    | false => simp [h y hy hs]
theorem Agree.done {stored : List Str} {x : Str} {m m₀ : Str → Option Value} (h : Agree stored x m m₀) : m = fD x stored m m₀ := by
  funext y
  simp only [fD]
  by_cases hy : y = x
  · simp [hy]
  · cases hs : stored.contains y with
    | true =>
      have h2 : (x :: stored).contains y = true := by rw [List.contains_cons, hs, Bool.or_true]
      rw [if_pos h2]
    | false =>
      have : (y == x) = false := by simpa using hy
      simp only [List.contains_cons, hs, this, Bool.or_false, Bool.false_eq_true, if_false]
      exact h y hy hs
/-- what is made lies behind what stood -/
def Behind (Z tl : List (Addr × Obj)) : Prop := ∀ q ∈ Z, ∀ p ∈ tl, p.1 ≠ q.1
theorem Behind.nil {Z : List (Addr × Obj)} : Behind Z [] := fun _ _ _ h => nomatch h
theorem Behind.ne {Z tl : List (Addr × Obj)} (h : Behind Z tl) {p q : Addr × Obj} (hq : q ∈ Z) (hp : p ∈ tl) : p.1 ≠ q.1 := h q hq p hp
theorem Behind.sub {Z Z' tl tl' : List (Addr × Obj)} (h : Behind Z tl) (a : ∀ p ∈ Z', p ∈ Z) (b : ∀ p ∈ tl', p ∈ tl) : Behind Z' tl' := fun q hq p hp => h q (a q hq) p (b p hp)
theorem Behind.app {Z tl tl' : List (Addr × Obj)} (h : Behind Z tl) (k : Behind (Z ++ tl) tl') : Behind Z (tl ++ tl') := by
  intro q hq p hp
  rcases List.mem_append.mp hp with hp | hp
  · exact h q hq p hp
  · exact k q (List.mem_append.mpr (.inl hq)) p hp

section
variable {prog : Program} {w : World} {A : Around} {E : Value → Shared → Prop} {s : Shared} {env : Env} {h₀ : Heap} {x : Str} {body : List Stmt} {Q : Flow → Shared → Prop}
theorem range_loop {r : Addr} {a b c : Int} {t₀ u₀ v₀ : Tok} {n : Nat} {m₀ : Str → Option Value} {news : List (Addr × Obj)} (J : Nat → (Str → Option Value) → List (Addr × Obj) → Prop)
    (hh : A.handled = none) (hr : IsRange s.heap r a b c t₀ u₀ v₀) (hsmall : Builtin.Range.small a b c = true) (hsz : Builtin.Range.rangeSize a b c = (n : Int)) (F : Fr h₀ env.locals s.heap m₀) (N : News h₀ env.locals s.heap news) (hj : J 0 m₀ news)
    (turn : ∀ i t m₁ nx h tk own, i < n → OwnOff own (nx.map (·.1)) → J i m₁ nx → Fr h₀ env.locals h (fun y => if y = x then some (.int (a + i * c) t) else m₁ y) → News h₀ env.locals h (nx ++ own) →
      wpAny (model prog w) A (execs body env) (InvPostG h₀ env.locals (J (i + 1)) own { s with heap := h, toks := tk } Q) E { s with heap := h, toks := tk })
    (done : ∀ m₁ nx h tk, J n m₁ nx → Fr h₀ env.locals h m₁ → News h₀ env.locals h nx → Q .next { s with heap := h, toks := tk }) :
    wpAny (model prog w) A (pyIter (.ref r)) (fun it s₂ => LoopAtV prog w A h₀ env x body Q E it s₂) E s := by
  refine wpAny_pyIter_range hr hsmall ?_
  have W := (Walks.range (prog := prog) (w := w) hh s.heap.objs.size a c n).bound
  refine kdr_loop J W (fun _ h => h) (fun _ h => h) (fun i h hi b hb => ?_) (fun hm => ?_) (fun b hb => ?_) (fun p hp hI => ?_) (by show IsRangeIter _ _ _ _ _; rw [hsz]; simpa using Heap.get?_push_size _ rfl) (F.push _) (fun p hp => ⟨Heap.get?_push_of_some _ (N p hp).1, (N p hp).2⟩) hj ?_ done
  · rw [List.mem_singleton.mp hb]; exact ⟨_, hi⟩
  · exact absurd F.ns.lt ((List.mem_singleton.mp hm) ▸ Nat.lt_irrefl _)
  · rw [List.mem_singleton.mp hb]; exact next_is_new F
  · exact absurd (Heap.lt_size (N p hp).1) ((List.mem_singleton.mp hI) ▸ Nat.lt_irrefl _)
  · rintro i v m₁ nx h tk own hi ⟨_, t, rfl⟩ hoff hJ F₁ N₁
    exact turn i t m₁ nx h tk own hi hoff hJ F₁ N₁

/-- a turn's end of a loop that builds a list and may turn M -/
def BEnd (h₀ : Heap) (L ra : Addr) (Mut : List (Addr × Obj) → Prop) (R : List (Addr × Obj) → Value → Prop) (stored : List Str) (x : Str) (m₀ : Str → Option Value) (vs : List Value) (M Y : List (Addr × Obj)) (s₁ s₂ : Shared) : Prop :=
  ∃ h' tk' m' v e' M' tl, s₂ = { s₁ with heap := h', toks := tk' } ∧ Fr h₀ L h' m' ∧ Agree stored x m' m₀ ∧ News h₀ L h' ((ra, listOf (vs ++ [v]).toArray e') :: (M' ++ (Y ++ tl))) ∧ (∀ p ∈ tl, p.1 ≠ ra) ∧ Behind (M ++ Y) tl ∧ Mut M' ∧ R tl v
def BPost (h₀ : Heap) (L ra : Addr) (Mut : List (Addr × Obj) → Prop) (R : List (Addr × Obj) → Value → Prop) (stored : List Str) (x : Str) (m₀ : Str → Option Value) (vs : List Value) (M Y : List (Addr × Obj)) (Q : Flow → Shared → Prop) (s₁ : Shared) (f : Flow) (s₂ : Shared) : Prop :=
  match f with
  | .ret v => Q (.ret v) s₂
  | .brk => Q .next s₂
  | _ => BEnd h₀ L ra Mut R stored x m₀ vs M Y s₁ s₂

def BJ (ra : Addr) (adr : List Addr) (Mut : List (Addr × Obj) → Prop) (R : Nat → List (Addr × Obj) → Value → Prop) (Z : List (Addr × Obj)) (stored : List Str) (x : Str) (m₀ : Str → Option Value) (i : Nat) (m : Str → Option Value) (nx : List (Addr × Obj)) : Prop :=
  ∃ (vs : List Value) (e : Nat) (M tl : List (Addr × Obj)), nx = (ra, listOf vs.toArray e) :: (M ++ (Z ++ tl)) ∧ vs.length = i ∧ Mut M ∧ (∀ p ∈ tl, p.1 ≠ ra ∧ (∀ b ∈ adr, p.1 ≠ b)) ∧ Behind Z tl ∧ Agree stored x m m₀ ∧ (∀ j v, vs[j]? = some v → R j tl v)

/-- what the builder of a turn hands over, put into the loop's rule -/
theorem bj_turn {ra : Addr} {adr : List Addr} {Mut : List (Addr × Obj) → Prop} {R : Nat → List (Addr × Obj) → Value → Prop} {Z : List (Addr × Obj)} {stored : List Str} {m₀ : Str → Option Value} {i : Nat} {v : Value} {m₁ : Str → Option Value} {nx own : List (Addr × Obj)} {h : Heap} {tk : Nat}
    (hMadr : ∀ M, Mut M → M.map (·.1) = adr) (hZ : ∀ p ∈ Z, p.1 ≠ ra ∧ p.1 ∉ adr) (Rmono : ∀ j tl tl' v, (∀ p ∈ tl, p ∈ tl') → R j tl v → R j tl' v)
    (turn : ∀ (vs : List Value) (e : Nat) (M Y : List (Addr × Obj)) (u : Str → Option Value), vs.length = i → Mut M → (∀ p ∈ Y, p.1 ≠ ra) → (∀ p ∈ Y, p.1 ∉ adr) → (∀ p ∈ Z, p ∈ Y) →
      Fr h₀ env.locals h (fT x v stored u m₀) → News h₀ env.locals h ((ra, listOf vs.toArray e) :: (M ++ Y)) →
      wpAny (model prog w) A (execs body env) (BPost h₀ env.locals ra Mut (R i) stored x m₀ vs M Y Q { s with heap := h, toks := tk }) E { s with heap := h, toks := tk })
    (hoff : OwnOff own (nx.map (·.1))) (hJ : BJ ra adr Mut R Z stored x m₀ i m₁ nx) (F : Fr h₀ env.locals h (fun y => if y = x then some v else m₁ y)) (N : News h₀ env.locals h (nx ++ own)) :
    wpAny (model prog w) A (execs body env) (InvPostG h₀ env.locals (BJ ra adr Mut R Z stored x m₀ (i + 1)) own { s with heap := h, toks := tk } Q) E { s with heap := h, toks := tk } := by
  obtain ⟨vs, e, M, tl, rfl, hlen, hM, htl, hb, hag, hR⟩ := hJ
  rw [hag.turn] at F
  have hown : ∀ p ∈ own, p.1 ≠ ra ∧ p.1 ∉ adr := fun p hp => by
    refine ⟨hoff p hp ra (by simp), fun hm => hoff p hp p.1 ?_ rfl⟩
    rw [← hMadr M hM] at hm
    simp only [List.map_cons, List.map_append, List.mem_cons, List.mem_append]
    exact .inr (.inl hm)
  have hY1 : ∀ p ∈ Z ++ (tl ++ own), p.1 ≠ ra := fun p hp => by
    rcases List.mem_append.mp hp with hp | hp
    · exact (hZ p hp).1
    · rcases List.mem_append.mp hp with hp | hp
      · exact (htl p hp).1
      · exact (hown p hp).1
  have hY2 : ∀ p ∈ Z ++ (tl ++ own), p.1 ∉ adr := fun p hp => by
    rcases List.mem_append.mp hp with hp | hp
    · exact (hZ p hp).2
    · rcases List.mem_append.mp hp with hp | hp
      · exact fun hm => (htl p hp).2 _ hm rfl
      · exact (hown p hp).2
  have N' : News h₀ env.locals h ((ra, listOf vs.toArray e) :: (M ++ (Z ++ (tl ++ own)))) := fun p hp => N p (by
    simp only [List.mem_cons, List.mem_append] at hp ⊢
    rcases hp with hp | hp | hp | hp | hp
    · exact .inl (.inl hp)
    · exact .inl (.inr (.inl hp))
    · exact .inl (.inr (.inr (.inl hp)))
    · exact .inl (.inr (.inr (.inr hp)))
    · exact .inr hp)
  refine wpAny_mono (turn vs e M (Z ++ (tl ++ own)) m₁ hlen hM hY1 hY2 (fun p hp => List.mem_append.mpr (.inl hp)) F N') (fun f s₂ q => ?_) fun _ _ e => e
  have fin : BEnd h₀ env.locals ra Mut (R i) stored x m₀ vs M (Z ++ (tl ++ own)) { s with heap := h, toks := tk } s₂ → InvEndG h₀ env.locals (BJ ra adr Mut R Z stored x m₀ (i + 1)) own { s with heap := h, toks := tk } s₂ := by
    rintro ⟨h', tk', m', v', e', M', tl', rfl, F', ag', N₂, o1, o2, hM', hR'⟩
    have inY : ∀ p ∈ own, p ∈ M ++ (Z ++ (tl ++ own)) := fun p hp => by simp [hp]
    refine ⟨h', tk', m', _, (ra, listOf (vs ++ [v']).toArray e') :: (M' ++ (Z ++ (tl ++ tl'))), rfl, F', N₂, fun p hp => ?_, fun p hp => ?_, fun p hp b hb' => ?_, vs ++ [v'], e', M', tl ++ tl', rfl, by simp [hlen], hM', fun p hp => ?_, ?_, ag', fun j v'' hj => ?_⟩
    · simp only [List.mem_cons, List.mem_append] at hp ⊢
      rcases hp with hp | hp | hp | hp | hp
      · exact .inl hp
      · exact .inr (.inl hp)
      · exact .inr (.inr (.inl (.inl hp)))
      · exact .inr (.inr (.inl (.inr (.inl hp))))
      · exact .inr (.inr (.inr hp))
    · simp only [List.mem_cons, List.mem_append]
      exact .inr (.inr (.inl (.inr (.inr hp))))
    · obtain ⟨q, hq, rfl⟩ := List.mem_map.mp hb'
      simp only [List.mem_cons, List.mem_append] at hq
      rcases hq with rfl | hq | hq | hq | hq
      · exact (hown p hp).1
      · exact fun e => (hown p hp).2 (by rw [← hMadr M' hM']; exact List.mem_map.mpr ⟨q, hq, e.symm⟩)
      · exact hoff p hp _ (List.mem_map.mpr ⟨q, by simp [hq], rfl⟩)
      · exact hoff p hp _ (List.mem_map.mpr ⟨q, by simp [hq], rfl⟩)
      · exact (o2 p (inY p hp) q hq).symm
    · rcases List.mem_append.mp hp with hp | hp
      · exact htl p hp
      · refine ⟨o1 p hp, fun b hb' => ?_⟩
        rw [← hMadr M hM] at hb'
        obtain ⟨q, hq, rfl⟩ := List.mem_map.mp hb'
        exact o2 q (by simp [hq]) p hp
    · intro q hq p hp
      rcases List.mem_append.mp hp with hp | hp
      · exact hb q hq p hp
      · exact o2 q (by simp [hq]) p hp
    · by_cases hlt : j < vs.length
      · rw [List.getElem?_append_left hlt] at hj
        exact Rmono j _ _ _ (fun p hp => List.mem_append.mpr (.inl hp)) (hR j v'' hj)
      · have hj2 := List.getElem?_eq_some_iff.mp hj
        obtain ⟨hj2, hj3⟩ := hj2
        have : j = vs.length := by simp only [List.length_append, List.length_singleton] at hj2; omega
        subst this
        simp at hj3
        subst hj3
        rw [hlen]
        exact Rmono i _ _ _ (fun p hp => List.mem_append.mpr (.inr hp)) hR'
  cases f with
  | ret v => exact q
  | brk => exact q
  | next => exact fin q
  | cont => exact fin q

/-- for x in range(..): a list is built -/
theorem build_range {r ra : Addr} {a b c : Int} {t₀ u₀ v₀ : Tok} {n : Nat} {m₀ : Str → Option Value} {e₀ : Nat} {M₀ Z : List (Addr × Obj)} (adr : List Addr) (Mut : List (Addr × Obj) → Prop) (R : Nat → List (Addr × Obj) → Value → Prop) (stored : List Str)
    (hMadr : ∀ M, Mut M → M.map (·.1) = adr) (hZ : ∀ p ∈ Z, p.1 ≠ ra ∧ p.1 ∉ adr) (Rmono : ∀ j tl tl' v, (∀ p ∈ tl, p ∈ tl') → R j tl v → R j tl' v)
    (hh : A.handled = none) (hr : IsRange s.heap r a b c t₀ u₀ v₀) (hsmall : Builtin.Range.small a b c = true) (hsz : Builtin.Range.rangeSize a b c = (n : Int)) (F : Fr h₀ env.locals s.heap m₀)
    (N : News h₀ env.locals s.heap ((ra, listOf #[] e₀) :: (M₀ ++ Z))) (hM : Mut M₀)
    (turn : ∀ (i : Nat) (t : Tok) (vs : List Value) (e : Nat) (M Y : List (Addr × Obj)) (u : Str → Option Value) h tk, i < n → vs.length = i → Mut M → (∀ p ∈ Y, p.1 ≠ ra) → (∀ p ∈ Y, p.1 ∉ adr) → (∀ p ∈ Z, p ∈ Y) →
      Fr h₀ env.locals h (fT x (.int (a + i * c) t) stored u m₀) → News h₀ env.locals h ((ra, listOf vs.toArray e) :: (M ++ Y)) →
      wpAny (model prog w) A (execs body env) (BPost h₀ env.locals ra Mut (R i) stored x m₀ vs M Y Q { s with heap := h, toks := tk }) E { s with heap := h, toks := tk })
    (done : ∀ (vs : List Value) (e : Nat) (M tl : List (Addr × Obj)) (u : Str → Option Value) h tk, vs.length = n → Mut M → Fr h₀ env.locals h (fD x stored u m₀) → News h₀ env.locals h ((ra, listOf vs.toArray e) :: (M ++ (Z ++ tl))) → (∀ p ∈ tl, p.1 ≠ ra ∧ (∀ b ∈ adr, p.1 ≠ b)) → Behind Z tl →
      (∀ j v, vs[j]? = some v → R j tl v) → Q .next { s with heap := h, toks := tk }) :
    wpAny (model prog w) A (pyIter (.ref r)) (fun it s₂ => LoopAtV prog w A h₀ env x body Q E it s₂) E s := by
  refine range_loop (BJ ra adr Mut R Z stored x m₀) hh hr hsmall hsz F N ⟨[], e₀, M₀, [], by simp, rfl, hM, (fun _ h => (nomatch h)), Behind.nil, fun _ _ _ => rfl, fun j v hj => by simp at hj⟩ ?_ ?_
  · intro i t m₁ nx h tk own hi hoff hJ F₁ N₁
    exact bj_turn hMadr hZ Rmono (fun vs e M Y u h1 h2 h3 h4 h5 F' N' => turn i t vs e M Y u h tk hi h1 h2 h3 h4 h5 F' N') hoff hJ F₁ N₁
  · rintro m₁ nx h tk ⟨vs, e, M, tl, rfl, hlen, hM', htl, hb, hag, hR⟩ F₁ N₁
    rw [hag.done] at F₁
    exact done vs e M tl m₁ h tk hlen hM' F₁ N₁ htl hb hR
end
section
variable {prog : Program} {w : World} {A : Around} {E : Value → Shared → Prop} {s : Shared} {env : Env} {h₀ : Heap} {x : Str} {body : List Stmt} {Q : Flow → Shared → Prop}
def BEnd0 (h₀ : Heap) (L ra : Addr) (R : List (Addr × Obj) → Value → Prop) (stored : List Str) (x : Str) (m₀ : Str → Option Value) (vs : List Value) (Y : List (Addr × Obj)) (s₁ s₂ : Shared) : Prop :=
  ∃ h' tk' m' v e' tl, s₂ = { s₁ with heap := h', toks := tk' } ∧ Fr h₀ L h' m' ∧ Agree stored x m' m₀ ∧ News h₀ L h' ((ra, listOf (vs ++ [v]).toArray e') :: (Y ++ tl)) ∧ (∀ p ∈ tl, p.1 ≠ ra) ∧ Behind Y tl ∧ R tl v
def BPost0 (h₀ : Heap) (L ra : Addr) (R : List (Addr × Obj) → Value → Prop) (stored : List Str) (x : Str) (m₀ : Str → Option Value) (vs : List Value) (Y : List (Addr × Obj)) (Q : Flow → Shared → Prop) (s₁ : Shared) (f : Flow) (s₂ : Shared) : Prop :=
  match f with
  | .ret v => Q (.ret v) s₂
  | .brk => Q .next s₂
  | _ => BEnd0 h₀ L ra R stored x m₀ vs Y s₁ s₂
theorem bend0_of {L ra : Addr} {R : List (Addr × Obj) → Value → Prop} {stored : List Str} {m₀ : Str → Option Value} {vs : List Value} {Y : List (Addr × Obj)} {s₁ : Shared} {h' : Heap} {tk' : Nat} {m' : Str → Option Value} {v : Value} {e' : Nat} {all : List (Addr × Obj)} (tl : List (Addr × Obj))
    (F : Fr h₀ L h' m') (ag : Agree stored x m' m₀) (N : News h₀ L h' all) (hs : ∀ p ∈ (ra, listOf (vs ++ [v]).toArray e') :: (Y ++ tl), p ∈ all) (o1 : ∀ p ∈ tl, p.1 ≠ ra) (o2 : Behind Y tl) (r : R tl v) :
    BEnd0 h₀ L ra R stored x m₀ vs Y s₁ { s₁ with heap := h', toks := tk' } := ⟨h', tk', m', v, e', tl, rfl, F, ag, fun p hp => N p (hs p hp), o1, o2, r⟩
theorem build_range0 {r ra : Addr} {b : Int} {t₀ u₀ v₀ : Tok} {n : Nat} {m₀ : Str → Option Value} {e₀ : Nat} {Z : List (Addr × Obj)} (R : Nat → List (Addr × Obj) → Value → Prop) (stored : List Str)
    (Rmono : ∀ j tl tl' v, (∀ p ∈ tl, p ∈ tl') → R j tl v → R j tl' v)
    (hh : A.handled = none) (hr : IsRange s.heap r 0 b 1 t₀ u₀ v₀) (hsmall : Builtin.Range.small 0 b 1 = true) (hsz : Builtin.Range.rangeSize 0 b 1 = (n : Int)) (F : Fr h₀ env.locals s.heap m₀)
    (N : News h₀ env.locals s.heap ((ra, listOf #[] e₀) :: Z)) (hZ : AllLt ra Z)
    (turn : ∀ (i : Nat) (t : Tok) (vs : List Value) (e : Nat) (Y : List (Addr × Obj)) (u : Str → Option Value) h tk, i < n → vs.length = i → (∀ p ∈ Y, p.1 ≠ ra) → (∀ p ∈ Z, p ∈ Y) →
      Fr h₀ env.locals h (fT x (.int (i : Int) t) stored u m₀) → News h₀ env.locals h ((ra, listOf vs.toArray e) :: Y) →
      wpAny (model prog w) A (execs body env) (BPost0 h₀ env.locals ra (R i) stored x m₀ vs Y Q { s with heap := h, toks := tk }) E { s with heap := h, toks := tk })
    (done : ∀ (vs : List Value) (e : Nat) (tl : List (Addr × Obj)) (u : Str → Option Value) h tk, vs.length = n → Fr h₀ env.locals h (fD x stored u m₀) → News h₀ env.locals h ((ra, listOf vs.toArray e) :: (Z ++ tl)) → (∀ p ∈ tl, p.1 ≠ ra) → Behind Z tl →
      (∀ j v, vs[j]? = some v → R j tl v) → Q .next { s with heap := h, toks := tk }) :
    wpAny (model prog w) A (pyIter (.ref r)) (fun it s₂ => LoopAtV prog w A h₀ env x body Q E it s₂) E s := by
  refine build_range (M₀ := []) [] (fun M => M = []) R stored (fun M h => by rw [h]; rfl) (fun p hp => ⟨Nat.ne_of_lt (ktn_ltOf hZ p hp), by simp⟩) Rmono hh hr hsmall hsz F N rfl ?_ ?_
  · rintro i t vs e M Y u h tk hi hl rfl h1 _ h3 F₁ N₁
    have e1 : (0 : Int) + (i : Int) * 1 = (i : Int) := by omega
    rw [e1] at F₁
    refine wpAny_mono (turn i t vs e Y u h tk hi hl h1 h3 F₁ N₁) (fun f s₂ q => ?_) fun _ _ y => y
    have up : BEnd0 h₀ env.locals ra (R i) stored x m₀ vs Y { s with heap := h, toks := tk } s₂ → BEnd h₀ env.locals ra (fun M => M = []) (R i) stored x m₀ vs [] Y { s with heap := h, toks := tk } s₂ := by
      rintro ⟨h', tk', m', v, e', tl, rfl, F', ag, N', o1, o2, r⟩
      exact ⟨h', tk', m', v, e', [], tl, rfl, F', ag, N', o1, o2, rfl, r⟩
    cases f with
    | ret v => exact q
    | brk => exact q
    | next => exact up q
    | cont => exact up q
  · rintro vs e M tl u h tk hl rfl F₁ N₁ o1 o2 hR
    exact done vs e tl u h tk hl F₁ N₁ (fun p hp => (o1 p hp).1) o2 hR
end
theorem Behind.cons {Z tl : List (Addr × Obj)} {p : Addr × Obj} (h : AllLt p.1 Z) (k : Behind Z tl) : Behind Z (p :: tl) := by
  intro q hq r hr
  rcases List.mem_cons.mp hr with rfl | hr
  · exact Nat.ne_of_gt (ktn_ltOf h q hq)
  · exact k q hq r hr
theorem allLt_app {a : Addr} : ∀ {l k : List (Addr × Obj)}, AllLt a (l ++ k) → AllLt a l ∧ AllLt a k
  | [], _, h => ⟨trivial, h⟩
  | _ :: _, _, h => ⟨⟨h.1, (allLt_app h.2).1⟩, (allLt_app h.2).2⟩

section
open PyProof.Rows
variable {prog : Program} {w : World} {A : Around} {h₀ : Heap} {L : Addr} {m : Str → Option Value} {env : Env} {elt : PySem.Expr} {x : Str} {scope : Scope} {cl : List (Str × Addr)}
/-- a comprehension's turn ends: y is made, M turned to M', the objects tl' made -/
def CEnd (h₀ : Heap) (L : Addr) (m : Str → Option Value) (s₁ : Shared) (I : Addr) (oI : Obj) (C : Addr) (oC : Obj) (D : Addr) (oD : Obj) (Mut : List (Addr × Obj) → Prop) (R : List (Addr × Obj) → Value → Prop) (M Y : List (Addr × Obj)) (y : Value) (s₂ : Shared) : Prop :=
  ∃ h' tk' M' tl', s₂ = { s₁ with heap := h', toks := tk' } ∧ Fr h₀ L h' m ∧ News h₀ L h' ((I, oI) :: (C, oC) :: (D, oD) :: (M' ++ (Y ++ tl'))) ∧ Behind ((I, oI) :: (C, oC) :: (D, oD) :: (M ++ Y)) tl' ∧ Mut M' ∧ R tl' y
theorem comp_rest {s : Shared} {S : List (Addr × Obj) → Prop} {P : Nat → Value → Prop} {Fin : List Value → List (Addr × Obj) → Prop} {Z : List (Addr × Obj)} {n : Nat} (adr : List Addr) (Mut : List (Addr × Obj) → Prop) (R : Nat → List (Addr × Obj) → Value → Prop)
    (hMadr : ∀ M, Mut M → M.map (·.1) = adr) (hZ : ∀ p ∈ Z, p.1 ∉ adr) (Rmono : ∀ j tl tl' v, (∀ p ∈ tl, p ∈ tl') → R j tl v → R j tl' v) (hS : ∀ M tl, Mut M → S (M ++ (Z ++ tl)))
    (turn : ∀ (i : Nat) (v : Value) (I : Addr) (oI : Obj) (C : Addr) (oC : Obj) (D : Addr) (ys : List Value) (m₂ : Str → Option Value) (h : Heap) (tk : Nat) (E' : Value → Shared → Prop) (M Y : List (Addr × Obj)), i < n → ys.length = i → P i v → Mut M → (∀ p ∈ Y, p.1 ∉ adr) → (∀ p ∈ Z, p ∈ Y) →
      LCg.Off3 I C D (M ++ Y) → ((@Ne Nat I C) ∧ (@Ne Nat I D) ∧ (@Ne Nat C D)) → LCg.NsObj oC m₂ → m₂ x = some v → Fr h₀ L h m → News h₀ L h ((I, oI) :: (C, oC) :: (D, LCg.lst ys) :: (M ++ Y)) →
      wpAny (model prog w) A (eval elt (compEnvC scope cl C env)) (CEnd h₀ L m { s with heap := h, toks := tk } I oI C oC D (LCg.lst ys) Mut (R i) M Y) E' { s with heap := h, toks := tk })
    (fin : ∀ ys M tl, ys.length = n → Mut M → Behind Z tl → (∀ p ∈ tl, p.1 ∉ adr) → (∀ (j : Nat) (v : Value), ys[j]? = some v → R j tl v) → Fin ys (M ++ (Z ++ tl))) :
    ∀ (k i : Nat) (ys : List Value) (M tl : List (Addr × Obj)), i + k = n → ys.length = i → Mut M → Behind Z tl → (∀ p ∈ tl, p.1 ∉ adr) → (∀ (j : Nat) (v : Value), ys[j]? = some v → R j tl v) →
      LCg.CompRest prog w A h₀ L m env elt x scope cl s S P Fin k i ys (M ++ (Z ++ tl)) := by
  intro k
  induction k with
  | zero =>
    intro i ys M tl hi hl hM hb ha hR
    exact LCg.CompRest.zero (fin ys M tl (by omega) hM hb ha hR)
  | succ k ih =>
    intro i ys M tl hi hl hM hb ha hR
    refine LCg.CompRest.succ fun v I oI C oC D m₂ h tk E' hP hC hx F N off ne => ?_
    have hY : ∀ p ∈ Z ++ tl, p.1 ∉ adr := fun p hp => by
      rcases List.mem_append.mp hp with hp | hp
      · exact hZ p hp
      · exact ha p hp
    refine wpAny_mono (turn i v I oI C oC D ys m₂ h tk E' M (Z ++ tl) (by omega) hl hP hM hY (fun p hp => List.mem_append.mpr (.inl hp)) off ne hC hx F N) (fun y s₂ q => ?_) fun _ _ e => e
    obtain ⟨h', tk', M', tl', rfl, F', N', hb', hM', hR'⟩ := q
    have e : M' ++ (Z ++ tl ++ tl') = M' ++ (Z ++ (tl ++ tl')) := by simp
    rw [e] at N'
    have hoff3 : LCg.Off3 I C D (M' ++ (Z ++ (tl ++ tl'))) := LCg.Off3.of fun p hp => by
      have o := off.mem
      have old : ∀ q ∈ M ++ (Z ++ tl), q.1 = p.1 → p.1 ≠ I ∧ p.1 ≠ C ∧ p.1 ≠ D := fun q hq hqp => hqp ▸ o q hq
      simp only [List.mem_append] at hp
      rcases hp with hp | hp | hp | hp
      · have : p.1 ∈ M.map (·.1) := by rw [hMadr M hM, ← hMadr M' hM']; exact List.mem_map.mpr ⟨p, hp, rfl⟩
        obtain ⟨q, hq, hqp⟩ := List.mem_map.mp this
        exact old q (by simp [hq]) hqp
      · exact old p (by simp [hp]) rfl
      · exact old p (by simp [hp]) rfl
      · exact ⟨hb' (I, oI) (by simp) p hp, hb' (C, oC) (by simp) p hp, hb' (D, LCg.lst ys) (by simp) p hp⟩
    refine LCg.CompEnd.intro F' N' (M' ++ (Z ++ (tl ++ tl'))) (fun p hp => hp) hoff3 (hS M' _ hM') (ih (i + 1) (ys ++ [y]) M' (tl ++ tl') (by omega) (by simp [hl]) hM' ?_ ?_ ?_)
    · intro q hq p hp
      rcases List.mem_append.mp hp with hp | hp
      · exact hb q hq p hp
      · exact hb' q (by simp [hq]) p hp
    · intro p hp
      rcases List.mem_append.mp hp with hp | hp
      · exact ha p hp
      · intro hm
        rw [← hMadr M hM] at hm
        obtain ⟨q, hq, hqp⟩ := List.mem_map.mp hm
        exact hb' q (by simp [hq]) p hp hqp.symm
    · intro j v' hj
      by_cases hlt : j < ys.length
      · rw [List.getElem?_append_left hlt] at hj
        exact Rmono j _ _ _ (fun p hp => List.mem_append.mpr (.inl hp)) (hR j v' hj)
      · obtain ⟨hj2, hj3⟩ := List.getElem?_eq_some_iff.mp hj
        have : j = ys.length := by simp only [List.length_append, List.length_singleton] at hj2; omega
        subst this
        simp at hj3
        subst hj3
        rw [hl]
        exact Rmono i _ _ _ (fun p hp => List.mem_append.mpr (.inr hp)) hR'
theorem cend_nil {s₁ : Shared} {I C D : Addr} {oI oC oD : Obj} {Mut : List (Addr × Obj) → Prop} {R : List (Addr × Obj) → Value → Prop} {M Y : List (Addr × Obj)} {y : Value} {h' : Heap} {tk' : Nat} (M' : List (Addr × Obj))
    (F : Fr h₀ L h' m) (N : News h₀ L h' ((I, oI) :: (C, oC) :: (D, oD) :: (M' ++ Y))) (hM : Mut M') (r : R [] y) : CEnd h₀ L m s₁ I oI C oC D oD Mut R M Y y { s₁ with heap := h', toks := tk' } :=
  ⟨h', tk', M', [], rfl, F, by rw [List.append_nil]; exact N, Behind.nil, hM, r⟩
theorem cend_app {s₁ : Shared} {I C D : Addr} {oI oC oD : Obj} {Mut : List (Addr × Obj) → Prop} {R : List (Addr × Obj) → Value → Prop} {M Y tl : List (Addr × Obj)} {y : Value} {h' : Heap} {tk' : Nat} (M' : List (Addr × Obj))
    (F : Fr h₀ L h' m) (N : News h₀ L h' (((I, oI) :: (C, oC) :: (D, oD) :: (M' ++ Y)) ++ tl)) (hb : Behind ((I, oI) :: (C, oC) :: (D, oD) :: (M ++ Y)) tl) (hM : Mut M') (r : R tl y) : CEnd h₀ L m s₁ I oI C oC D oD Mut R M Y y { s₁ with heap := h', toks := tk' } :=
  ⟨h', tk', M', tl, rfl, F, fun p hp => N p (by simpa using hp), hb, hM, r⟩
theorem comp_go {s : Shared} {S : List (Addr × Obj) → Prop} {P : Nat → Value → Prop} {Fin : List Value → List (Addr × Obj) → Prop} {Z : List (Addr × Obj)} {n : Nat} (M₀ : List (Addr × Obj)) (adr : List Addr) (Mut : List (Addr × Obj) → Prop) (R : Nat → List (Addr × Obj) → Value → Prop)
    (hMadr : ∀ M, Mut M → M.map (·.1) = adr) (hZ : ∀ p ∈ Z, p.1 ∉ adr) (Rmono : ∀ j tl tl' v, (∀ p ∈ tl, p ∈ tl') → R j tl v → R j tl' v) (hS : ∀ M tl, Mut M → S (M ++ (Z ++ tl)))
    (turn : ∀ (i : Nat) (v : Value) (I : Addr) (oI : Obj) (C : Addr) (oC : Obj) (D : Addr) (ys : List Value) (m₂ : Str → Option Value) (h : Heap) (tk : Nat) (E' : Value → Shared → Prop) (M Y : List (Addr × Obj)), i < n → ys.length = i → P i v → Mut M → (∀ p ∈ Y, p.1 ∉ adr) → (∀ p ∈ Z, p ∈ Y) →
      LCg.Off3 I C D (M ++ Y) → ((@Ne Nat I C) ∧ (@Ne Nat I D) ∧ (@Ne Nat C D)) → LCg.NsObj oC m₂ → m₂ x = some v → Fr h₀ L h m → News h₀ L h ((I, oI) :: (C, oC) :: (D, LCg.lst ys) :: (M ++ Y)) →
      wpAny (model prog w) A (eval elt (compEnvC scope cl C env)) (CEnd h₀ L m { s with heap := h, toks := tk } I oI C oC D (LCg.lst ys) Mut (R i) M Y) E' { s with heap := h, toks := tk })
    (fin : ∀ ys M tl, ys.length = n → Mut M → Behind Z tl → (∀ p ∈ tl, p.1 ∉ adr) → (∀ (j : Nat) (v : Value), ys[j]? = some v → R j tl v) → Fin ys (M ++ (Z ++ tl))) (hM₀ : Mut M₀) :
    LCg.CompRest prog w A h₀ L m env elt x scope cl s S P Fin n 0 [] (M₀ ++ Z) := by
  have := comp_rest (s := s) (S := S) (P := P) (Fin := Fin) adr Mut R hMadr hZ Rmono hS turn fin n 0 [] M₀ [] (by omega) rfl hM₀ Behind.nil (fun _ h => nomatch h) (fun j v h => by simp at h)
  rwa [List.append_nil] at this
end
section
open PyProof.Rows
variable {prog : Program} {w : World} {A : Around} {E : Value → Shared → Prop} {s : Shared} {h₀ : Heap} {L : Addr} {m : Str → Option Value} {env : Env}
abbrev tupO (its : Array Value) : Obj := { cls := .type "tuple", data := .seq its }
/-- the source of a comprehension that is a tuple of the ledger -/
def TupSrc (prog : Program) (w : World) (A : Around) (h₀ : Heap) (L : Addr) (m : Str → Option Value) (env : Env) (elt : PySem.Expr) (x : Str) (scope : Scope) (cl : List (Str × Addr)) (Fin : Shared → List Value → List (Addr × Obj) → Prop) (xv : Value) (s₁ : Shared) : Prop :=
  ∃ ax its nn news, xv = .ref ax ∧ A.handled = none ∧ Fr h₀ L s₁.heap m ∧ News h₀ L s₁.heap news ∧ (ax, ({ cls := .type "tuple", data := .seq its nn } : Obj)) ∈ news ∧ its.size ≤ sizeLine ∧
    ∀ s₂ : Shared, (∃ h, s₂ = { s₁ with heap := h }) → LCg.CompRest prog w A h₀ L m env elt x scope cl s₂ (fun nw => (ax, ({ cls := .type "tuple", data := .seq its nn } : Obj)) ∈ nw) (fun i v => its[i]? = some v) (Fin s₂) its.size 0 [] news
theorem ListComp_T {elt iter : PySem.Expr} {x : Str} {px : Pos} {scope : Scope} {cl : List (Str × Addr)} {pos : Pos} {Q : Value → Shared → Prop} (F₀ : Fr h₀ L s.heap m)
    (hclos : closureFor scope env = pure cl) (hcell : ∀ y ∈ scope.names, y.2 ≠ .cell) (hkind : scope.kind = .function)
    (hnames : ∀ y ∈ scope.names, y.2 = .local → scope.names.lookup y.1 = some .local) (hx : scope.names.lookup x = some .local)
    (h : wpAny (model prog w) A (eval iter env) (TupSrc prog w A h₀ L m env elt x scope cl (fun s₂ => LCg.FinE h₀ L m s₂ Q)) E s)
    (hs : ∀ x, foldedSetIterable iter env x = pure x := by intro _; rfl) :
    wpAny (model prog w) A (eval (.ListComp elt [⟨.Name x px, iter, [], 0⟩] scope pos) env) Q E s := by
  rw [eval_ListComp]
  refine wpAny_comprehension_free (use := none) rfl hs hclos hkind hnames (wpAny_mono h (fun xv s₁ h₁ => ?_) fun _ _ e => e)
  obtain ⟨ax, its, nn, news, rfl, hh, F, N, hm, hsz, R⟩ := h₁
  have hl : s₁.heap.IsTuple ax its := ⟨_, (N _ hm).1, rfl, nn, rfl⟩
  have hlt : ax < s₁.heap.objs.size := Heap.lt_size (N _ hm).1
  refine wpAny_pyIter_tuple hl ?_
  have up : ∀ b o, s₁.heap.get? b = some o → (s₁.heap.push { cls := .type "tuple_iterator", data := .fields #[.ref ax, .int 0 0] }).get? b = some o := fun b o e => Heap.get?_push_of_some _ e
  refine LCg.block_U (Walks.tuple hh s₁.heap.objs.size ax (Nat.ne_of_lt hlt) its) hsz (fun i h st => by obtain ⟨o, e, _⟩ := st.1; exact ⟨o, e⟩)
    (fun i h h' o nw st e e' k N S => ⟨by obtain ⟨o', q, r⟩ := st.1; rw [e] at q; cases q; exact ⟨o, e', r⟩, ⟨_, (N _ S).1, rfl, nn, rfl⟩⟩)
    hcell hkind hx ⟨⟨_, Heap.get?_push_size _ rfl, rfl, rfl⟩, ⟨_, up _ _ (N _ hm).1, rfl, nn, rfl⟩⟩ (fun b hb => ?_)
    (F.keeps up) (N.grown up) (Nat.ne_of_lt F.ns.lt) (next_is_new F) (fun p hp => Nat.ne_of_lt (Heap.lt_size (N p hp).1)) hm (R _ ⟨_, rfl⟩) ?_
  · show b < (s₁.heap.push _).objs.size
    rw [Heap.size_push]
    rcases List.mem_cons.mp hb with rfl | hb
    · exact Nat.lt_succ_self _
    · rw [List.mem_singleton.mp hb]; exact Nat.lt_succ_of_lt hlt
  · intro D C h tk m' ys news' F' N' o1 hn hC₀ hD₀ hCL hDL hCD offC fin
    refine ⟨m', hn, fun h'' hs'' => fin D h'' tk (F'.change hs'' hCL hC₀) (fun p hp => ?_) o1⟩
    refine ⟨hs''.extBut _ _ ?_ (N' p hp).1, (N' p hp).2⟩
    rcases List.mem_cons.mp hp with rfl | hp
    · exact Ne.symm hCD
    · exact offC p hp
end
theorem sub_refl {Z : List (Addr × Obj)} : ∀ p ∈ Z, p ∈ Z := fun _ h => h
def Stop (P : Prop) : Prop := P
theorem stop_in {P : Prop} (h : Stop P) : P := h
theorem stop_out {P : Prop} (h : P) : Stop P := h
theorem q_int {Q : Value → Shared → Prop} {z z' : Int} {t : Tok} {s : Shared} (h : Q (.int z t) s) (e : z' = z) : Q (.int z' t) s := e ▸ h
theorem pair_get {a b v : Value} {i : Nat} (h : (#[a, b] : Array Value)[i]? = some v) : (i = 0 ∧ v = a) ∨ (i = 1 ∧ v = b) := by
  match i, h with
  | 0, h => exact .inl ⟨rfl, by simpa using h.symm⟩
  | 1, h => exact .inr ⟨rfl, by simpa using h.symm⟩
  | n + 2, h => simp at h
theorem news_drop {h₀ h : Heap} {L : Addr} {a : Addr × Obj} {M Z tl : List (Addr × Obj)} (N : News h₀ L h (a :: (M ++ (Z ++ tl)))) : News h₀ L h (a :: (M ++ Z)) := fun p hp => N p (by
  simp only [List.mem_cons, List.mem_append] at hp ⊢
  rcases hp with h | h | h
  · exact .inl h
  · exact .inr (.inl h)
  · exact .inr (.inr (.inl h)))
theorem off1_all {D : Addr} : ∀ {l : List (Addr × Obj)}, LCg.Off1 D l → ∀ p ∈ l, @Ne Nat p.1 D
  | [], _, _, h => nomatch h
  | _ :: _, x, p, h => by
    rcases List.mem_cons.mp h with rfl | h
    · exact x.1
    · exact off1_all x.2 p h
theorem off1_of {D : Addr} : ∀ {l : List (Addr × Obj)}, (∀ p ∈ l, @Ne Nat p.1 D) → LCg.Off1 D l
  | [], _ => trivial
  | _ :: _, h => ⟨h _ List.mem_cons_self, off1_of fun p hp => h p (List.mem_cons_of_mem _ hp)⟩
theorem off1_drop {D : Addr} {M Z tl : List (Addr × Obj)} (o : LCg.Off1 D (M ++ (Z ++ tl))) : LCg.Off1 D (M ++ Z) := off1_of fun p hp => off1_all o p (by
  rcases List.mem_append.mp hp with h | h
  · exact List.mem_append.mpr (.inl h)
  · exact List.mem_append.mpr (.inr (List.mem_append.mpr (.inl h))))
theorem ae2 {a1 a2 C : Prop} (h : a1 ∧ a2) (k : a1 → a2 → C) : C := k h.1 h.2
theorem ae3 {a1 a2 a3 C : Prop} (h : a1 ∧ a2 ∧ a3) (k : a1 → a2 → a3 → C) : C := k h.1 h.2.1 h.2.2
theorem ae4 {a1 a2 a3 a4 C : Prop} (h : a1 ∧ a2 ∧ a3 ∧ a4) (k : a1 → a2 → a3 → a4 → C) : C := k h.1 h.2.1 h.2.2.1 h.2.2.2
theorem ae5 {a1 a2 a3 a4 a5 C : Prop} (h : a1 ∧ a2 ∧ a3 ∧ a4 ∧ a5) (k : a1 → a2 → a3 → a4 → a5 → C) : C := k h.1 h.2.1 h.2.2.1 h.2.2.2.1 h.2.2.2.2
theorem ae6 {a1 a2 a3 a4 a5 a6 C : Prop} (h : a1 ∧ a2 ∧ a3 ∧ a4 ∧ a5 ∧ a6) (k : a1 → a2 → a3 → a4 → a5 → a6 → C) : C := k h.1 h.2.1 h.2.2.1 h.2.2.2.1 h.2.2.2.2.1 h.2.2.2.2.2
theorem ae7 {a1 a2 a3 a4 a5 a6 a7 C : Prop} (h : a1 ∧ a2 ∧ a3 ∧ a4 ∧ a5 ∧ a6 ∧ a7) (k : a1 → a2 → a3 → a4 → a5 → a6 → a7 → C) : C := k h.1 h.2.1 h.2.2.1 h.2.2.2.1 h.2.2.2.2.1 h.2.2.2.2.2.1 h.2.2.2.2.2.2
theorem ae8 {a1 a2 a3 a4 a5 a6 a7 a8 C : Prop} (h : a1 ∧ a2 ∧ a3 ∧ a4 ∧ a5 ∧ a6 ∧ a7 ∧ a8) (k : a1 → a2 → a3 → a4 → a5 → a6 → a7 → a8 → C) : C := k h.1 h.2.1 h.2.2.1 h.2.2.2.1 h.2.2.2.2.1 h.2.2.2.2.2.1 h.2.2.2.2.2.2.1 h.2.2.2.2.2.2.2
theorem ae9 {a1 a2 a3 a4 a5 a6 a7 a8 a9 C : Prop} (h : a1 ∧ a2 ∧ a3 ∧ a4 ∧ a5 ∧ a6 ∧ a7 ∧ a8 ∧ a9) (k : a1 → a2 → a3 → a4 → a5 → a6 → a7 → a8 → a9 → C) : C := k h.1 h.2.1 h.2.2.1 h.2.2.2.1 h.2.2.2.2.1 h.2.2.2.2.2.1 h.2.2.2.2.2.2.1 h.2.2.2.2.2.2.2.1 h.2.2.2.2.2.2.2.2
theorem ae10 {a1 a2 a3 a4 a5 a6 a7 a8 a9 a10 C : Prop} (h : a1 ∧ a2 ∧ a3 ∧ a4 ∧ a5 ∧ a6 ∧ a7 ∧ a8 ∧ a9 ∧ a10) (k : a1 → a2 → a3 → a4 → a5 → a6 → a7 → a8 → a9 → a10 → C) : C := k h.1 h.2.1 h.2.2.1 h.2.2.2.1 h.2.2.2.2.1 h.2.2.2.2.2.1 h.2.2.2.2.2.2.1 h.2.2.2.2.2.2.2.1 h.2.2.2.2.2.2.2.2.1 h.2.2.2.2.2.2.2.2.2
theorem ae11 {a1 a2 a3 a4 a5 a6 a7 a8 a9 a10 a11 C : Prop} (h : a1 ∧ a2 ∧ a3 ∧ a4 ∧ a5 ∧ a6 ∧ a7 ∧ a8 ∧ a9 ∧ a10 ∧ a11) (k : a1 → a2 → a3 → a4 → a5 → a6 → a7 → a8 → a9 → a10 → a11 → C) : C := k h.1 h.2.1 h.2.2.1 h.2.2.2.1 h.2.2.2.2.1 h.2.2.2.2.2.1 h.2.2.2.2.2.2.1 h.2.2.2.2.2.2.2.1 h.2.2.2.2.2.2.2.2.1 h.2.2.2.2.2.2.2.2.2.1 h.2.2.2.2.2.2.2.2.2.2
theorem ae12 {a1 a2 a3 a4 a5 a6 a7 a8 a9 a10 a11 a12 C : Prop} (h : a1 ∧ a2 ∧ a3 ∧ a4 ∧ a5 ∧ a6 ∧ a7 ∧ a8 ∧ a9 ∧ a10 ∧ a11 ∧ a12) (k : a1 → a2 → a3 → a4 → a5 → a6 → a7 → a8 → a9 → a10 → a11 → a12 → C) : C := k h.1 h.2.1 h.2.2.1 h.2.2.2.1 h.2.2.2.2.1 h.2.2.2.2.2.1 h.2.2.2.2.2.2.1 h.2.2.2.2.2.2.2.1 h.2.2.2.2.2.2.2.2.1 h.2.2.2.2.2.2.2.2.2.1 h.2.2.2.2.2.2.2.2.2.2.1 h.2.2.2.2.2.2.2.2.2.2.2
theorem ae13 {a1 a2 a3 a4 a5 a6 a7 a8 a9 a10 a11 a12 a13 C : Prop} (h : a1 ∧ a2 ∧ a3 ∧ a4 ∧ a5 ∧ a6 ∧ a7 ∧ a8 ∧ a9 ∧ a10 ∧ a11 ∧ a12 ∧ a13) (k : a1 → a2 → a3 → a4 → a5 → a6 → a7 → a8 → a9 → a10 → a11 → a12 → a13 → C) : C := k h.1 h.2.1 h.2.2.1 h.2.2.2.1 h.2.2.2.2.1 h.2.2.2.2.2.1 h.2.2.2.2.2.2.1 h.2.2.2.2.2.2.2.1 h.2.2.2.2.2.2.2.2.1 h.2.2.2.2.2.2.2.2.2.1 h.2.2.2.2.2.2.2.2.2.2.1 h.2.2.2.2.2.2.2.2.2.2.2.1 h.2.2.2.2.2.2.2.2.2.2.2.2
theorem ae14 {a1 a2 a3 a4 a5 a6 a7 a8 a9 a10 a11 a12 a13 a14 C : Prop} (h : a1 ∧ a2 ∧ a3 ∧ a4 ∧ a5 ∧ a6 ∧ a7 ∧ a8 ∧ a9 ∧ a10 ∧ a11 ∧ a12 ∧ a13 ∧ a14) (k : a1 → a2 → a3 → a4 → a5 → a6 → a7 → a8 → a9 → a10 → a11 → a12 → a13 → a14 → C) : C := k h.1 h.2.1 h.2.2.1 h.2.2.2.1 h.2.2.2.2.1 h.2.2.2.2.2.1 h.2.2.2.2.2.2.1 h.2.2.2.2.2.2.2.1 h.2.2.2.2.2.2.2.2.1 h.2.2.2.2.2.2.2.2.2.1 h.2.2.2.2.2.2.2.2.2.2.1 h.2.2.2.2.2.2.2.2.2.2.2.1 h.2.2.2.2.2.2.2.2.2.2.2.2.1 h.2.2.2.2.2.2.2.2.2.2.2.2.2
theorem xe1 {A : Type} {p : A → Prop} {C : Prop} (h : ∃ x, p x) (k : ∀ x, p x → C) : C := let ⟨x, q⟩ := h; k x q
theorem xe2 {A B : Type} {p : A → B → Prop} {C : Prop} (h : ∃ x y, p x y) (k : ∀ x y, p x y → C) : C := let ⟨x, y, q⟩ := h; k x y q
theorem xe3 {A B D : Type} {p : A → B → D → Prop} {C : Prop} (h : ∃ x y z, p x y z) (k : ∀ x y z, p x y z → C) : C := let ⟨x, y, z, q⟩ := h; k x y z q
theorem Agree.set {stored : List Str} {x k : Str} {v m m₀ : Str → Option Value} (hk : k = x ∨ stored.contains k = true) (h : Agree stored x m m₀) : Agree stored x (fun y => if y = k then v y else m y) m₀ := by
  intro z hz hs
  have : z ≠ k := by
    rintro rfl
    rcases hk with hk | hk
    · exact hz hk
    · rw [hk] at hs; cases hs
  simp only [if_neg this]
  exact h z hz hs
theorem Agree.nilc {stored : List Str} {x : Str} {v m m₀ : Str → Option Value} (h : Agree stored x m m₀) : Agree stored x (fun y => if ([] : List Str).contains y = true then v y else m y) m₀ := by
  intro z hz hs
  exact h z hz hs
theorem Agree.ofT {stored : List Str} {x : Str} {v : Value} {u m₀ : Str → Option Value} : Agree stored x (fT x v stored u m₀) m₀ := by
  intro z hz hs
  simp only [fT, if_neg hz, hs, Bool.false_eq_true, if_false]
theorem Agree.ofD {stored st : List Str} {x k : Str} {u m m₀ : Str → Option Value} (hk : ∀ z ∈ k :: st, z = x ∨ stored.contains z = true) (h : Agree stored x m m₀) : Agree stored x (fD k st u m) m₀ := by
  intro z hz hs
  have : (k :: st).contains z = false := by
    cases hc : (k :: st).contains z with
    | false => rfl
    | true =>
      rcases hk z (List.contains_iff_mem.mp hc) with e | e
      · exact absurd e hz
      · rw [e] at hs; cases hs
  simp only [fD, this, Bool.false_eq_true, if_false]
  exact h z hz hs
theorem ints_of_get {f : Nat → Int} : ∀ {n : Nat} {vs : List Value}, vs.length = n → (∀ (j : Nat) (v : Value), vs[j]? = some v → ∃ t, v = Value.int (f j) t) → IntsAre vs ((List.range n).map f) := by
  intro n
  induction n generalizing f with
  | zero => intro vs h _; cases vs with
    | nil => exact .nil
    | cons _ _ => simp at h
  | succ n ih =>
    intro vs h k
    cases vs with
    | nil => simp at h
    | cons v vs =>
      rw [List.range_succ_eq_map, List.map_cons, List.map_map]
      obtain ⟨t, rfl⟩ := k 0 v rfl
      exact .cons _ _ (ih (f := f ∘ Nat.succ) (by simpa using h) fun j w hj => k (j + 1) w (by simpa using hj))
theorem dats_of_get {f : Nat → Dat} {Z : List (Addr × Obj)} : ∀ {n : Nat} {vs : List Value}, vs.length = n → (∀ (j : Nat) (v : Value), vs[j]? = some v → DatIn Z v (f j)) → DatAll Z vs ((List.range n).map f) := by
  intro n
  induction n generalizing f with
  | zero => intro vs h _; cases vs with
    | nil => exact .nil
    | cons _ _ => simp at h
  | succ n ih =>
    intro vs h k
    cases vs with
    | nil => simp at h
    | cons v vs =>
      rw [List.range_succ_eq_map, List.map_cons, List.map_map]
      exact .cons (k 0 v rfl) (ih (f := f ∘ Nat.succ) (by simpa using h) fun j w hj => k (j + 1) w (by simpa using hj))
theorem off_app {a : Addr} {Y tl : List (Addr × Obj)} (hY : ∀ p ∈ Y, p.1 ≠ a) {q : Addr × Obj} (hb : Behind (q :: Y) tl) (hq : q.1 = a) : ∀ p ∈ Y ++ tl, p.1 ≠ a := by
  intro p hp
  rcases List.mem_append.mp hp with hp | hp
  · exact hY p hp
  · exact hq ▸ hb q List.mem_cons_self p hp
theorem bend0_nil {h₀ : Heap} {R : List (Addr × Obj) → Value → Prop} {L ra : Addr} {stored : List Str} {x : Str} {m₀ : Str → Option Value} {vs : List Value} {Y : List (Addr × Obj)} {s₁ : Shared} {h' : Heap} {tk' : Nat} {m' : Str → Option Value} {v : Value} {e' : Nat}
    (F : Fr h₀ L h' m') (N : News h₀ L h' ((ra, listOf (vs.toArray.push v) e') :: Y)) (ag : Agree stored x m' m₀) (r : R [] v) :
    BEnd0 h₀ L ra R stored x m₀ vs Y s₁ { s₁ with heap := h', toks := tk' } := by
  rw [List.push_toArray] at N
  exact ⟨h', tk', m', v, e', [], rfl, F, ag, by simpa using N, by simp, Behind.nil, r⟩
theorem bend0_row {h₀ : Heap} {R : List (Addr × Obj) → Value → Prop} {L ra l : Addr} {stored : List Str} {x : Str} {m₀ : Str → Option Value} {vs : List Value} {Y tl : List (Addr × Obj)} {o : Obj} {s₁ : Shared} {h' : Heap} {tk' : Nat} {m' : Str → Option Value} {v : Value} {e' : Nat}
    (F : Fr h₀ L h' m') (N : News h₀ L h' ((l, o) :: (ra, listOf (vs.toArray.push v) e') :: (Y ++ tl))) (l1 : ra < l ∧ AllLt l Y) {o' : Obj} (o2 : Behind ((ra, o') :: Y) tl) (ag : Agree stored x m' m₀) (r : R ((l, o) :: tl) v) :
    BEnd0 h₀ L ra R stored x m₀ vs Y s₁ { s₁ with heap := h', toks := tk' } := by
  rw [List.push_toArray] at N
  refine ⟨h', tk', m', v, e', (l, o) :: tl, rfl, F, ag, fun p hp => N p ?_, ?_, Behind.cons l1.2 (o2.sub (fun p hp => List.mem_cons_of_mem _ hp) fun _ h => h), r⟩
  · simp only [List.mem_cons, List.mem_append] at hp ⊢
    rcases hp with h | h | h | h
    · exact .inr (.inl h)
    · exact .inr (.inr (.inl h))
    · exact .inl h
    · exact .inr (.inr (.inr h))
  · intro p hp
    rcases List.mem_cons.mp hp with rfl | hp
    · exact Nat.ne_of_gt l1.1
    · exact o2 _ List.mem_cons_self p hp
theorem two_le (b : Bool) : 1 ≤ two b ∧ two b ≤ 2 := by cases b <;> decide
theorem fdiv_up {n : Nat} {b : Bool} : ((n : Int) + two b - 1).fdiv (two b) = ((hlf n b : Nat) : Int) := by
  cases b
  · simp [two, hlf]
  · show ((n : Int) + 2 - 1).fdiv 2 = (((n + 1) / 2 : Nat) : Int)
    rw [Int.fdiv_eq_ediv_of_nonneg _ (by decide)]; omega
theorem plane_made {h₀ h' : Heap} {L x' d' l' : Addr} {e nn : Nat} {h1 h2 h3 : Int} {t1 t2 t3 tw th : Tok} {wi hi : Int} {c1 c2 : Addr × Obj} {news tl : List (Addr × Obj)} {vs : List Value} {n1 n2 : Nat} {f : Nat → Nat → Int}
    (N : News h₀ L h' ((x', instObj 94 d') :: (d', dictOf [ent h1 "width" t1 (.int wi tw), ent h2 "height" t2 (.int hi th), ent h3 "rows" t3 (.ref l')] nn) :: (l', listOf vs.toArray e) :: ((c1 :: c2 :: news) ++ tl)))
    (a1 : c1.1 < l' ∧ c2.1 < l' ∧ AllLt l' news) (a2 : l' < d') (a3 : d' < x') (o2 : Behind (c1 :: c2 :: news) tl)
    (hwi : wi = (n2 : Int)) (hhi : hi = (n1 : Int)) (hl : vs.length = n1) (hR : ∀ (j : Nat) (v : Value), vs[j]? = some v → DatIn tl v (rowD ((List.range n2).map (f j)))) (p1 : 0 < n1) (p2 : 0 < n2) :
    ∃ TL, News h₀ L h' (news ++ TL) ∧ Behind news TL ∧ PlaneAt TL x' n2 n1 ((List.range n1).map fun y => (List.range n2).map (f y)) := by
  subst hwi hhi
  refine ⟨(x', instObj 94 d') :: (d', dictOf [ent h1 "width" t1 (.int (n2 : Int) tw), ent h2 "height" t2 (.int (n1 : Int) th), ent h3 "rows" t3 (.ref l')] nn) :: (l', listOf vs.toArray e) :: tl, fun p hp => N p ?_, ?_, ⟨⟨d', h1, t1, h2, t2, h3, t3, nn, tw, th, .ref l', by simp, by simp, ?_⟩, ?_⟩⟩
  · simp only [List.mem_append, List.mem_cons] at hp ⊢
    rcases hp with h | h | h | h | h
    · exact .inr (.inr (.inr (.inl (.inr (.inr h)))))
    · exact .inl h
    · exact .inr (.inl h)
    · exact .inr (.inr (.inl h))
    · exact .inr (.inr (.inr (.inr h)))
  · have b1 : Behind news tl := o2.sub (fun p hp => by simp [hp]) fun _ h => h
    intro q hq p hp
    have lq := ktn_ltOf a1.2.2 q hq
    simp only [List.mem_cons] at hp
    rcases hp with rfl | rfl | rfl | hp
    · exact Nat.ne_of_gt (Nat.lt_trans lq (Nat.lt_trans a2 a3))
    · exact Nat.ne_of_gt (Nat.lt_trans lq a2)
    · exact Nat.ne_of_gt lq
    · exact b1 q hq p hp
  · unfold gD
    rw [List.map_map]
    exact .list (List.mem_cons_of_mem _ (List.mem_cons_of_mem _ List.mem_cons_self)) (dats_of_get (f := rowD ∘ fun y => (List.range n2).map (f y)) hl fun j v h => (hR j v h).mono fun p hp => by simp [hp])
  · exact ⟨by simp, by simp, p2, p1⟩
theorem fdiv_two {n : Nat} : ((n : Int) + 1).fdiv 2 = (((n + 1) / 2 : Nat) : Int) := by
  rw [Int.fdiv_eq_ediv_of_nonneg _ (by decide)]; omega
section
open PyProof.Rows
variable {prog : Program} {w : World} {A : Around} {E : Value → Shared → Prop} {s : Shared} {h₀ : Heap} {L : Addr} {m : Str → Option Value} {env : Env}
/-- a comprehension over range(b) whose own name is a cell (an inner comprehension reads it) -/
def CellSrc (prog : Program) (w : World) (A : Around) (h₀ : Heap) (L : Addr) (m : Str → Option Value) (env : Env) (elt : PySem.Expr) (x : Str) (scope : Scope) (cl : List (Str × Addr)) (Q : Value → Shared → Prop) (xv : Value) (s₁ : Shared) : Prop :=
  ∃ r b t u v n Z, ∃ R : Nat → List (Addr × Obj) → Value → Prop, xv = .ref r ∧ A.handled = none ∧ Fr h₀ L s₁.heap m ∧ News h₀ L s₁.heap Z ∧ IsRange s₁.heap r 0 b 1 t u v ∧ Builtin.Range.small 0 b 1 = true ∧ Builtin.Range.rangeSize 0 b 1 = ((n : Nat) : Int) ∧ n ≤ sizeLine ∧
    (∀ j tl tl' v, (∀ p ∈ tl, p ∈ tl') → R j tl v → R j tl' v) ∧
    (∀ (i : Nat) (t : Tok) (I : Addr) (oI : Obj) (C : Addr) (oC : Obj) (K : Addr) (oK : Obj) (D : Addr) (ys : List Value) (h : Heap) (tk : Nat) (E' : Value → Shared → Prop) (Y : List (Addr × Obj)), i < n → ys.length = i → oK.data = .cell (some (.int (i : Int) t)) → (∀ p ∈ Z, p ∈ Y) →
      Fr h₀ L h m → News h₀ L h ((I, oI) :: (C, oC) :: (K, oK) :: (D, LCg.lst ys) :: Y) →
      wpAny (model prog w) A (eval elt (compEnvC scope ((x, K) :: cl) C env)) (fun y s' => ∃ h' tk' tl, s' = { s₁ with heap := h', toks := tk' } ∧ Fr h₀ L h' m ∧ News h₀ L h' (((I, oI) :: (C, oC) :: (K, oK) :: (D, LCg.lst ys) :: Y) ++ tl) ∧ Behind ((I, oI) :: (C, oC) :: (K, oK) :: (D, LCg.lst ys) :: Y) tl ∧ R i tl y) E' { s₁ with heap := h, toks := tk }) ∧
    (∀ (ys : List Value) (tl : List (Addr × Obj)) (D : Addr) (h : Heap) (tk : Nat), ys.length = n → Behind Z tl → (∀ (j : Nat) (v : Value), ys[j]? = some v → R j tl v) → Fr h₀ L h m → News h₀ L h ((D, LCg.lst ys) :: (Z ++ tl)) → (∀ p ∈ Z ++ tl, @Ne Nat p.1 D) → Q (.ref D) { s₁ with heap := h, toks := tk })

theorem ListComp_C {elt iter : PySem.Expr} {x : Str} {px : Pos} {scope : Scope} {cl : List (Str × Addr)} {pos : Pos} {Q : Value → Shared → Prop} (F₀ : Fr h₀ L s.heap m)
    (hclos : closureFor scope env = pure cl) (hkind : scope.kind = .function)
    (hnames : ∀ y ∈ scope.names, y.2 = .local → scope.names.lookup y.1 = some .local) (hcf : ∀ n, cellsFrom n scope.names cl = (x, n) :: cl) (hpc : ∀ h : Heap, pushCells h scope.names = h.push { cls := .type "cell", data := .cell none })
    (hx : (relabel scope env).names.lookup x = some .cell)
    (h : wpAny (model prog w) A (eval iter env) (CellSrc prog w A h₀ L m env elt x scope cl Q) E s)
    (hs : ∀ x, foldedSetIterable iter env x = pure x := by intro _; rfl) :
    wpAny (model prog w) A (eval (.ListComp elt [⟨.Name x px, iter, [], 0⟩] scope pos) env) Q E s := by
  rw [eval_ListComp]
  refine wpAny_comprehension_free (use := none) rfl hs hclos hkind hnames (wpAny_mono h (fun xv s₁ h₁ => ?_) fun _ _ e => e)
  obtain ⟨r, b, t, u, v, n, Z, R, rfl, hh, F, N, hr, hsm, hn, hsz, Rmono, turn, fin⟩ := h₁
  refine wpAny_pyIter_range hr hsm ?_
  -- the iterator
  generalize hH1 : s₁.heap.push _ = H1
  have s1 : H1.objs.size = s₁.heap.objs.size + 1 := by rw [← hH1, Heap.size_push]
  have up1 : ∀ b o, s₁.heap.get? b = some o → H1.get? b = some o := fun b o e => hH1 ▸ Heap.get?_push_of_some _ e
  have hst0 : IsRangeIter H1 s₁.heap.objs.size (0 + ((0 : Nat) : Int) * 1) ((n : Int) - ((0 : Nat) : Int)) 1 := by
    show H1.get? _ = _
    rw [hn] at hH1
    rw [← hH1]
    simpa using Heap.get?_push_size _ rfl
  generalize hI : s₁.heap.objs.size = I at s1 hst0
  have W := LCg.range_walks (prog := prog) (w := w) (I := I) hh 0 n
  refine wpAny_newObj_type ?_
  dsimp only
  generalize hH2 : H1.push _ = H2
  have s2 : H2.objs.size = I + 2 := by rw [← hH2, Heap.size_push, s1]
  have up2 : ∀ b o, H1.get? b = some o → H2.get? b = some o := fun b o e => hH2 ▸ Heap.get?_push_of_some _ e
  have hD2 : H2.get? (I + 1) = some (LCg.lst []) := by rw [← hH2, ← s1]; exact Heap.get?_push_size _ rfl
  simp only [newFunctionEnv, Option.isSome_some, if_true]
  refine wpAny_bind (wpAny_alloc ?_)
  dsimp only
  generalize hH3 : H2.push _ = H3
  have s3 : H3.objs.size = I + 3 := by rw [← hH3, Heap.size_push, s2]
  have up3 : ∀ b o, H2.get? b = some o → H3.get? b = some o := fun b o e => hH3 ▸ Heap.get?_push_of_some _ e
  have hC3 : H3.Ns (I + 2) (fun _ => none) := by
    have := Heap.Ns.new H2 (.type "dict")
    rw [s2] at this
    rw [← hH3]
    exact this
  refine wpAny_bind (wpAny_layCells _ (fun name kind cells => by cases kind == NameKind.cell <;> simp) _ _ _ _ ?_)
  dsimp only
  rw [hcf, hpc]
  rw [show (({ s₁ with heap := H3 } : Shared).heap.objs.size) = I + 3 from s3]
  generalize hH4 : H3.push _ = H4
  have up4 : ∀ b o, H3.get? b = some o → H4.get? b = some o := fun b o e => hH4 ▸ Heap.get?_push_of_some _ e
  have hK4 : H4.IsCell (I + 3) none := ⟨_, by rw [← hH4, ← s3]; exact Heap.get?_push_size _ rfl, rfl⟩
  refine wpAny_bind ?_
  rw [List.forIn_nil]
  refine wpAny_pure (wpAny_pure ?_)
  have old4 : ∀ b o, s₁.heap.get? b = some o → H4.get? b = some o := fun b o e => up4 _ _ (up3 _ _ (up2 _ _ (up1 _ _ e)))
  have hD4 : H4.get? (I + 1) = some (LCg.lst []) := up4 _ _ (up3 _ _ hD2)
  have hC4 : H4.Ns (I + 2) (fun _ => none) := hC3.keeps up4
  have hst4 : IsRangeIter H4 I (0 + ((0 : Nat) : Int) * 1) ((n : Int) - ((0 : Nat) : Int)) 1 := up4 _ _ (up3 _ _ (up2 _ _ hst0))
  have fresh₀ : ∀ a, I ≤ a → h₀.get? a = none := fun a ha => by
    cases e : h₀.get? a with
    | none => rfl
    | some o' => exact absurd (Heap.lt_size (F.keep a o' e)) (by rw [hI]; exact Nat.not_lt.mpr ha)
  have hLlt : L < I := by rw [← hI]; exact F.ns.lt
  have hZlt : ∀ p ∈ Z, p.1 < I := fun p hp => by rw [← hI]; exact Heap.lt_size (N p hp).1
  have loop : ∀ s₃ : Shared, s₃ = { s₁ with heap := H4 } →
      codeAny (model prog w) A (.compLoop (.ListComp elt [⟨.Name x px, iter, [], 0⟩] scope pos) 0 (.ref I) (.ref (I + 1)) (compEnvC scope ((x, I + 3) :: cl) (I + 2) env))
        (compPost (model prog w) A E none Q (.ref (I + 1)) (I + 2)) s₃ := by
    rintro s₃ rfl
    refine codeAny_compLoop_tests
      (fun k s' => ∃ h' tk i ys tl, s' = { s₁ with heap := h', toks := tk } ∧ i ≤ n ∧ k = n + 1 - i ∧ ys.length = i ∧ IsRangeIter h' I (0 + (i : Nat) * 1) ((n : Int) - (i : Nat)) 1 ∧ Fr h₀ L h' m ∧ h'.Ns (I + 2) (fun _ => none) ∧ (∃ v₀, h'.IsCell (I + 3) v₀) ∧
        News h₀ L h' ((I + 1, LCg.lst ys) :: (Z ++ tl)) ∧ (∀ p ∈ tl, @Ne Nat p.1 I ∧ @Ne Nat p.1 (I + 1) ∧ @Ne Nat p.1 (I + 2) ∧ @Ne Nat p.1 (I + 3)) ∧ Behind Z tl ∧ (∀ (j : Nat) (v : Value), ys[j]? = some v → R j tl v)) ?_ (n + 1)
      ⟨H4, _, 0, [], [], rfl, Nat.zero_le _, rfl, rfl, hst4, F.keeps old4, hC4, ⟨_, hK4⟩, ?_, (fun _ h => nomatch h), Behind.nil, fun j v h => by simp at h⟩
    · rintro k s' ⟨h', tk, i, ys, tl, rfl, hi, rfl, hyl, hst', F', hC', ⟨v₀, hK'⟩, N', off, hb, hR⟩
      have offZ : ∀ p ∈ Z ++ tl, @Ne Nat p.1 I ∧ @Ne Nat p.1 (I + 1) ∧ @Ne Nat p.1 (I + 2) ∧ @Ne Nat p.1 (I + 3) := fun p hp => by
        rcases List.mem_append.mp hp with hp | hp
        · have h9 : @LT.lt Nat _ p.1 I := hZlt p hp
          exact ⟨by omega, by omega, by omega, by omega⟩
        · exact off p hp
      by_cases hlt : i < n
      · refine W.item i _ _ _ hlt hst' fun v h₂ tk₂ hPv hst₂ hk₂ => ?_
        obtain ⟨t', rfl⟩ := hPv
        have k2 : ∀ b o, @Ne Nat b I → h'.get? b = some o → h₂.get? b = some o := fun b o hb e => hk₂ b o (by simpa using hb) e
        have hK2 : h₂.IsCell (I + 3) v₀ := by obtain ⟨o, e, d⟩ := hK'; exact ⟨o, k2 _ _ (by omega) e, d⟩
        refine wpAny_assign_Name (wpAny_storeName_cell hkind hx (c := I + 3) (by show List.lookup x ((x, I + 3) :: cl) = _; simp) hK2 fun h₃ hK₃ hs₃ => ?_)
        refine wpAny_tests_nil ?_
        simp only [if_true]
        have k3 : ∀ b o, @Ne Nat b (I + 3) → h₂.get? b = some o → h₃.get? b = some o := fun b o hb e => hs₃.extBut b o hb e
        have k23 : ∀ b o, @Ne Nat b I → @Ne Nat b (I + 3) → h'.get? b = some o → h₃.get? b = some o := fun b o hb hc e => k3 b o hc (k2 b o hb e)
        have hst₃ : IsRangeIter h₃ I (0 + ((i + 1 : Nat) : Int) * 1) ((n : Int) - ((i + 1 : Nat) : Int)) 1 := k3 _ _ (by omega) hst₂
        obtain ⟨oK, eK, dK⟩ := hK₃
        obtain ⟨oI, eI⟩ : ∃ o, h₃.get? I = some o := ⟨_, hst₃⟩
        have hC₃ : h₃.Ns (I + 2) (fun _ => none) := hC'.at' fun o e => k23 _ _ (by omega) (by omega) e
        obtain ⟨oC, eC, nC⟩ := LCg.ns_obj hC₃
        have F₃ : Fr h₀ L h₃ m := ⟨F'.ns.at' fun o e => k23 L o (by have : @LT.lt Nat _ L I := hLlt; omega) (by have : @LT.lt Nat _ L I := hLlt; omega) e, fun b o e => by
          have hbI : @Ne Nat b I := fun q => by rw [q, fresh₀ I (Nat.le_refl _)] at e; cases e
          have hbK : @Ne Nat b (I + 3) := fun q => by rw [q, fresh₀ (I + 3) (Nat.le_add_right _ _)] at e; cases e
          exact k23 b o hbI hbK (F'.keep b o e), F'.above⟩
        have hne : ∀ c, I ≤ c → @Ne Nat c L := fun c hc => by have : @LT.lt Nat _ L I := hLlt; omega
        have N₃ : News h₀ L h₃ ((I, oI) :: (I + 2, oC) :: (I + 3, oK) :: (I + 1, LCg.lst ys) :: (Z ++ tl)) := fun p hp => by
          simp only [List.mem_cons] at hp
          rcases hp with rfl | rfl | rfl | rfl | hp
          · exact ⟨eI, hne _ (Nat.le_refl _), fresh₀ _ (Nat.le_refl _)⟩
          · exact ⟨eC, hne _ (Nat.le_add_right _ _), fresh₀ _ (Nat.le_add_right _ _)⟩
          · exact ⟨eK, hne _ (Nat.le_add_right _ _), fresh₀ _ (Nat.le_add_right _ _)⟩
          · exact ⟨k23 _ _ (by omega) (by omega) (N' _ List.mem_cons_self).1, hne _ (Nat.le_add_right _ _), fresh₀ _ (Nat.le_add_right _ _)⟩
          · have z := N' p (List.mem_cons_of_mem _ hp)
            exact ⟨k23 _ _ (offZ p hp).1 (offZ p hp).2.2.2 z.1, z.2⟩
        refine wpAny_mono (turn i t' I oI (I + 2) oC (I + 3) oK (I + 1) ys h₃ _ _ (Z ++ tl) hlt hyl (by rw [dK, Int.zero_add]) (fun p hp => List.mem_append.mpr (.inl hp)) F₃ N₃) (fun y s₄ h₄ => ?_) fun _ _ e => e
        obtain ⟨h₄, tk₄, tl', rfl, F₄, N₄, hb₄, hR₄⟩ := h₄
        have zI := (N₄ (I, oI) (List.mem_append_left _ List.mem_cons_self)).1
        have zC := (N₄ (I + 2, oC) (by simp)).1
        have zK := (N₄ (I + 3, oK) (by simp)).1
        have zD := (N₄ (I + 1, LCg.lst ys) (by simp)).1
        refine append_at (hsz := by show ys.toArray.size ≤ sizeLine; rw [List.size_toArray, hyl]; exact Nat.le_trans hi hsz) zD fun h₅ hs₅ hD₅ => ?_
        have k5 : ∀ b o, @Ne Nat b (I + 1) → h₄.get? b = some o → h₅.get? b = some o := fun b o hb e => hs₅.extBut b o hb e
        have off' : ∀ p ∈ tl ++ tl', @Ne Nat p.1 I ∧ @Ne Nat p.1 (I + 1) ∧ @Ne Nat p.1 (I + 2) ∧ @Ne Nat p.1 (I + 3) := fun p hp => by
          rcases List.mem_append.mp hp with hp | hp
          · exact off p hp
          · exact ⟨hb₄ (I, oI) List.mem_cons_self p hp, hb₄ (I + 1, LCg.lst ys) (by simp) p hp, hb₄ (I + 2, oC) (by simp) p hp, hb₄ (I + 3, oK) (by simp) p hp⟩
        have D₀ : @Ne Nat (I + 1) L := hne _ (Nat.le_add_right _ _)
        refine ⟨n + 1 - (i + 1), by omega, h₅, tk₄, i + 1, ys ++ [y], tl ++ tl', rfl, hlt, rfl, by rw [List.length_append, List.length_singleton, hyl], (by have q : some oI = _ := eI.symm.trans hst₃; show h₅.get? I = _; rw [← q]; exact k5 _ _ (by omega) zI), F₄.change hs₅ D₀ (fresh₀ _ (Nat.le_add_right _ _)),
          (nC.ns (k5 _ _ (by omega) zC)).at' fun o e => e, ⟨_, oK, k5 _ _ (by omega) zK, dK⟩, fun p hp => ?_, off', ?_, ?_⟩
        · rcases List.mem_cons.mp hp with rfl | hp
          · exact ⟨hD₅.trans (congrArg some (LCg.lst_snoc ys y)), D₀, fresh₀ _ (Nat.le_add_right _ _)⟩
          · have hp' : p ∈ ((I, oI) :: (I + 2, oC) :: (I + 3, oK) :: (I + 1, LCg.lst ys) :: (Z ++ tl)) ++ tl' := by
              rw [← List.append_assoc] at hp
              simp only [List.cons_append, List.mem_cons]
              exact .inr (.inr (.inr (.inr hp)))
            have z := N₄ p hp'
            have hne1 : @Ne Nat p.1 (I + 1) := by
              rw [← List.append_assoc] at hp
              rcases List.mem_append.mp hp with hp | hp
              · exact (offZ p hp).2.1
              · exact hb₄ (I + 1, LCg.lst ys) (by simp) p hp
            exact ⟨k5 _ _ hne1 z.1, z.2⟩
        · intro q hq p hp
          rcases List.mem_append.mp hp with hp | hp
          · exact hb q hq p hp
          · exact hb₄ q (by simp [hq]) p hp
        · intro j v' hj
          by_cases hlj : j < ys.length
          · rw [List.getElem?_append_left hlj] at hj
            exact Rmono j _ _ _ (fun p hp => List.mem_append.mpr (.inl hp)) (hR j v' hj)
          · obtain ⟨hj2, hj3⟩ := List.getElem?_eq_some_iff.mp hj
            have : j = ys.length := by simp only [List.length_append, List.length_singleton] at hj2; omega
            subst this
            simp at hj3
            subst hj3
            rw [hyl]
            exact Rmono i _ _ _ (fun p hp => List.mem_append.mpr (.inr hp)) hR₄
      · obtain rfl : i = n := Nat.le_antisymm hi (Nat.not_lt.mp hlt)
        refine W.done _ _ _ hst' fun h₂ tk₂ hk₂ => ?_
        have k2 : ∀ b o, @Ne Nat b I → h'.get? b = some o → h₂.get? b = some o := fun b o hb e => hk₂ b o (by simpa using hb) e
        refine ⟨_, hC'.at' fun o e => k2 _ _ (by omega) e, fun h₃ hs₃ => ?_⟩
        have k3 : ∀ b o, @Ne Nat b (I + 2) → h₂.get? b = some o → h₃.get? b = some o := fun b o hb e => hs₃.extBut b o hb e
        have F₂ : Fr h₀ L h₂ m := ⟨F'.ns.at' fun o e => k2 L o (by have : @LT.lt Nat _ L I := hLlt; omega) e, fun b o e => k2 b o (fun q => by rw [q, fresh₀ I (Nat.le_refl _)] at e; cases e) (F'.keep b o e), F'.above⟩
        refine fin ys tl (I + 1) h₃ _ hyl hb hR (F₂.change hs₃ (by have : @LT.lt Nat _ L I := hLlt; show @Ne Nat (I + 2) L; omega) (fresh₀ _ (Nat.le_add_right _ _))) (fun p hp => ?_) (fun p hp => (offZ p hp).2.1)
        have z := N' p hp
        have o9 : @Ne Nat p.1 I ∧ @Ne Nat p.1 (I + 2) := by
          rcases List.mem_cons.mp hp with rfl | hp
          · exact ⟨by show @Ne Nat (I + 1) I; omega, by show @Ne Nat (I + 1) (I + 2); omega⟩
          · exact ⟨(offZ p hp).1, (offZ p hp).2.2.1⟩
        exact ⟨k3 _ _ o9.2 (k2 _ _ o9.1 z.1), z.2⟩
    · intro p hp
      rcases List.mem_cons.mp hp with rfl | hp
      · exact ⟨hD4, by have : @LT.lt Nat _ L I := hLlt; show @Ne Nat (I + 1) L; omega, fresh₀ _ (Nat.le_add_right _ _)⟩
      · rw [List.append_nil] at hp
        exact ⟨old4 _ _ (N p hp).1, (N p hp).2⟩
  have := codeAny_compStart_list (loop _ rfl) (W.self 0 _ _ _ hst4 (loop _ rfl))
  rw [s1, s2]
  exact this
end
theorem datIn_up {Z Z' : List (Addr × Obj)} {v : Value} {d : Dat} (h : DatIn Z v d) (k : ∀ p ∈ Z, p ∈ Z') : DatIn Z' v d := h.mono k
theorem mem_mid {A B : List (Addr × Obj)} {a p : Addr × Obj} (h : p ∈ A ++ (a :: B)) : p ∈ a :: (A ++ B) := by
  rcases List.mem_append.mp h with h | h
  · exact List.mem_cons_of_mem _ (List.mem_append_left _ h)
  · rcases List.mem_cons.mp h with h | h
    · exact h ▸ List.mem_cons_self
    · exact List.mem_cons_of_mem _ (List.mem_append_right _ h)
section
open PyProof.Rows
variable {prog : Program} {w : World} {A : Around} {E : Value → Shared → Prop} {s : Shared} {env : Env} {h₀ : Heap} {target : PySem.Expr} {body : List Stmt} {Q : Flow → Shared → Prop}
theorem letGo_rev {E : Value → Shared → Prop} {I t : Addr} {i : Int} {v : Value} {Q' : Unit → Shared → Prop} {s' : Shared} (hit : s'.heap.IsRevIter I t i) (h : Q' () s') :
    wpAny (model prog w) A (letOwnedTupleGo target (.ref I) v) Q' E s' := by
  obtain ⟨o, ho, hc, hd⟩ := hit
  unfold letOwnedTupleGo
  cases target <;> first
    | exact wpAny_pure h
    | (cases v <;> first
        | exact wpAny_pure h
        | (refine wpAny_bind (wpAny_load ho ?_)
           rw [hc, hd]
           exact wpAny_pure h))
def RevEnd (h₀ : Heap) (L D : Addr) (oD : Obj) (Z : List (Addr × Obj)) (G' : (Str → Option Value) → List (Addr × Obj) → Prop) (s s₂ : Shared) : Prop :=
  ∃ h' tk' m' tl', s₂ = { s with heap := h', toks := tk' } ∧ Fr h₀ L h' m' ∧ News h₀ L h' ((D, oD) :: (Z ++ tl')) ∧ Behind ((D, oD) :: Z) tl' ∧ G' m' tl'
def RevPost (h₀ : Heap) (L D : Addr) (oD : Obj) (Z : List (Addr × Obj)) (G' : (Str → Option Value) → List (Addr × Obj) → Prop) (Q : Flow → Shared → Prop) (s : Shared) (f : Flow) (s₂ : Shared) : Prop :=
  match f with
  | .ret v => Q (.ret v) s₂
  | .brk => Q .next s₂
  | _ => RevEnd h₀ L D oD Z G' s s₂
/-- for .. in reversed(a list of the ledger), whatever the target -/
theorem rev_loop {D st : Addr} {vs : List Value} {sn : Nat} {m₀ : Str → Option Value} {Z tl₀ : List (Addr × Obj)} (G : Nat → (Str → Option Value) → List (Addr × Obj) → Prop)
    (hh : A.handled = none) (F : Fr h₀ env.locals s.heap m₀) (N : News h₀ env.locals s.heap ((D, revObj st ((vs.length : Int) - 1)) :: (Z ++ tl₀))) (hm : (st, listOf vs.toArray sn) ∈ Z) (hD : ∀ p ∈ Z ++ tl₀, @Ne Nat p.1 D) (hb : Behind Z tl₀) (g0 : G 0 m₀ tl₀)
    (turn : ∀ (i : Nat) (v : Value) (m₁ : Str → Option Value) (tl : List (Addr × Obj)) (h : Heap) (tk : Nat) (oD : Obj), i < vs.length → vs[vs.length - 1 - i]? = some v → Behind Z tl → G i m₁ tl → (∀ p ∈ Z ++ tl, @Ne Nat p.1 D) → Fr h₀ env.locals h m₁ → News h₀ env.locals h ((D, oD) :: (Z ++ tl)) →
      wpAny (model prog w) A (assign target env v) (fun _ s₃ => wpAny (model prog w) A (execs body env) (RevPost h₀ env.locals D oD Z (G (i + 1)) Q s) E s₃) E { s with heap := h, toks := tk })
    (done : ∀ (m₁ : Str → Option Value) (tl : List (Addr × Obj)) (h : Heap) (tk : Nat), Behind Z tl → G vs.length m₁ tl → Fr h₀ env.locals h m₁ → News h₀ env.locals h (Z ++ tl) → Q .next { s with heap := h, toks := tk }) :
    TurnsAt prog w A h₀ env target body Q E (.ref D) s := by
  have nD := N _ List.mem_cons_self
  have nS := N (st, listOf vs.toArray sn) (List.mem_cons_of_mem _ (List.mem_append_left _ hm))
  have hne : st ≠ D := hD _ (List.mem_append_left _ hm)
  have hl : s.heap.IsList st vs.toArray := ⟨_, nS.1, rfl, sn, rfl⟩
  refine ⟨D, [D, st], [D], vs.length, _, _, _, m₀, Z ++ tl₀, fun i m nx => ∃ tl, nx = Z ++ tl ∧ Behind Z tl ∧ G i m tl, rfl, by
    have W := Walks.listRev (prog := prog) (w := w) (A := A) hh D st hne vs.toArray
    rw [List.size_toArray] at W
    exact KTurns.ofWalks W fun i v s Q E st q => letGo_rev st.2.1 q, ?_, ?_, ?_, ?_, F, fun p hp => N p (List.mem_cons_of_mem _ hp), ⟨tl₀, rfl, hb, g0⟩, ?_, ?_⟩
  · intro hI
    rcases List.mem_cons.mp hI with e | hI
    · exact nD.2.1 e.symm
    · exact nS.2.1 (List.mem_singleton.mp hI).symm
  · intro b hb
    rw [List.mem_singleton.mp hb]
    exact nD.2.2
  · intro p hp hI
    exact hD p hp (List.mem_singleton.mp hI)
  · refine ⟨Nat.zero_le _, ⟨_, nD.1, rfl, ?_⟩, hl⟩
    simp [revObj]
  · rintro i v m₁ nx h tk own hi hP ⟨tl, rfl, hb', g⟩ hw ho1 ho2 ho3 hSt F₁ N₁
    obtain ⟨oD, eD⟩ : ∃ o, h.get? D = some o := by obtain ⟨_, ⟨o, e, _⟩, _⟩ := hSt; exact ⟨o, e⟩
    have hDown : (D, oD) ∈ own := ho3 D (by simp) nD.2.2 oD eD
    have hD' : ∀ p ∈ Z ++ tl, @Ne Nat p.1 D := fun p hp e => hw p hp (by simpa using e)
    have N₂ : News h₀ env.locals h ((D, oD) :: (Z ++ tl)) := fun p hp => by
      rcases List.mem_cons.mp hp with rfl | hp
      · exact N₁ _ (List.mem_append_left _ hDown)
      · exact N₁ _ (List.mem_append_right _ hp)
    refine wpAny_mono (turn i v m₁ tl h tk oD hi (by simpa using hP) hb' g hD' F₁ N₂) (fun _ s₃ h₃ => wpAny_mono h₃ (fun f s₂ q => ?_) fun _ _ e => e) fun _ _ e => e
    have fin : RevEnd h₀ env.locals D oD Z (G (i + 1)) s s₂ →
        LoopStepU h₀ env.locals [D] own (fun m nx => ∃ tl, nx = Z ++ tl ∧ Behind Z tl ∧ G (i + 1) m tl) { s with heap := h, toks := tk } .next s₂ := by
      rintro ⟨h', tk', m', tl', rfl, F', N', hb2, g'⟩
      refine LoopStepU.intro (news₂ := Z ++ tl') F' (fun p hp => ?_) (fun p hp => ?_) ⟨tl', rfl, hb2.sub (fun p hp => List.mem_cons_of_mem _ hp) fun _ h => h, g'⟩
      · rcases List.mem_append.mp hp with hp | hp
        · have e := ho2 p hp
          have hpf := ho1 p hp
          have hp2 : p.1 = D ∨ p.1 = st := by simpa using hpf
          rcases hp2 with e2 | e2
          · have : p = (D, oD) := by
              rw [e2, eD] at e
              exact Prod.ext e2 (Option.some.inj e).symm
            rw [this]
            exact N' _ List.mem_cons_self
          · have zs := (N₂ (st, listOf vs.toArray sn) (List.mem_cons_of_mem _ (List.mem_append_left _ hm))).1
            have : p = (st, listOf vs.toArray sn) := by
              rw [e2] at e
              exact Prod.ext e2 (Option.some.inj (e.symm.trans zs))
            rw [this]
            exact N' _ (List.mem_cons_of_mem _ (List.mem_append_left _ hm))
        · exact N' _ (List.mem_cons_of_mem _ hp)
      · intro hI
        have hI := List.mem_singleton.mp hI
        rcases List.mem_append.mp hp with hp | hp
        · exact hD' p (List.mem_append_left _ hp) hI
        · exact hb2 (D, oD) List.mem_cons_self p hp hI
    cases f with
    | ret v => exact q
    | brk => exact q
    | next => exact fin q
    | cont => exact fin q
  · rintro h' tk m' nx F' N' _ ⟨tl, rfl, hb', g⟩
    exact done m' tl h' tk hb' g F' N'
theorem rev_loopM {D st : Addr} {vs : List Value} {sn : Nat} {m₀ : Str → Option Value} {Z tl₀ : List (Addr × Obj)} (G : (Str → Option Value) → List (Addr × Obj) → Nat → (Str → Option Value) → List (Addr × Obj) → Prop)
    (hh : A.handled = none) (F : Fr h₀ env.locals s.heap m₀) (N : News h₀ env.locals s.heap ((D, revObj st ((vs.length : Int) - 1)) :: (Z ++ tl₀))) (hm : (st, listOf vs.toArray sn) ∈ Z) (hD : ∀ p ∈ Z ++ tl₀, @Ne Nat p.1 D) (hb : Behind Z tl₀) (g0 : G m₀ tl₀ 0 m₀ tl₀)
    (turn : ∀ (i : Nat) (v : Value) (m₁ : Str → Option Value) (tl : List (Addr × Obj)) (h : Heap) (tk : Nat) (oD : Obj), i < vs.length → vs[vs.length - 1 - i]? = some v → Behind Z tl → G m₀ tl₀ i m₁ tl → (∀ p ∈ Z ++ tl, @Ne Nat p.1 D) → Fr h₀ env.locals h m₁ → News h₀ env.locals h ((D, oD) :: (Z ++ tl)) →
      wpAny (model prog w) A (assign target env v) (fun _ s₃ => wpAny (model prog w) A (execs body env) (RevPost h₀ env.locals D oD Z (G m₀ tl₀ (i + 1)) Q s) E s₃) E { s with heap := h, toks := tk })
    (done : ∀ (m₁ : Str → Option Value) (tl : List (Addr × Obj)) (h : Heap) (tk : Nat), Behind Z tl → G m₀ tl₀ vs.length m₁ tl → Fr h₀ env.locals h m₁ → News h₀ env.locals h (Z ++ tl) → Q .next { s with heap := h, toks := tk }) :
    TurnsAt prog w A h₀ env target body Q E (.ref D) s :=
  rev_loop (G m₀ tl₀) hh F N hm hD hb g0 turn done
end
/-- the planes of a picture on the ledger -/
structure PlanesAt (Z : List (Addr × Obj)) (vs : List Value) (wd hg : Nat) (gs : List (List (List Int))) : Prop where
  len : vs.length = gs.length
  ok : ∀ (j : Nat) (v : Value), vs[j]? = some v → ∃ p, v = .ref p ∧ PlaneAt Z p wd hg (gs.getD j [])
theorem PlanesAt.mono {Z Z' : List (Addr × Obj)} {vs : List Value} {wd hg : Nat} {gs : List (List (List Int))} (h : PlanesAt Z vs wd hg gs) (k : ∀ p ∈ Z, p ∈ Z') : PlanesAt Z' vs wd hg gs :=
  ⟨h.len, fun j v hv => let ⟨p, e, q⟩ := h.ok j v hv; ⟨p, e, q.mono k⟩⟩
/-- a level: its width, its height, its planes' rows -/
abbrev LV : Type := Nat × Nat × List (List (List Int))
structure PicAt (Z : List (Addr × Obj)) (x : Addr) (mdl : Str) (bits : Int) (g : LV) : Prop where
  ex : ∃ dx h1 t1 tm h2 t2 tb h3 t3 pl n vs e, (x, instObj 132 dx) ∈ Z ∧ (dx, dictOf [ent h1 "model" t1 (.str mdl tm), ent h2 "precision" t2 (.int bits tb), ent h3 "planes" t3 (.ref pl)] n) ∈ Z ∧ (pl, listOf vs.toArray e) ∈ Z ∧ PlanesAt Z vs g.1 g.2.1 g.2.2
theorem PicAt.mono {Z Z' : List (Addr × Obj)} {x : Addr} {mdl : Str} {bits : Int} {g : LV} (h : PicAt Z x mdl bits g) (k : ∀ p ∈ Z, p ∈ Z') : PicAt Z' x mdl bits g := by
  obtain ⟨dx, h1, t1, tm, h2, t2, tb, h3, t3, pl, n, vs, e, a, b, c, d⟩ := h
  exact ⟨dx, h1, t1, tm, h2, t2, tb, h3, t3, pl, n, vs, e, k _ a, k _ b, k _ c, d.mono k⟩
theorem PicAt.elim {Z : List (Addr × Obj)} {x : Addr} {mdl : Str} {bits : Int} {g : LV} {P : Prop} (h : PicAt Z x mdl bits g) (k : ∀ dx h1 t1 tm h2 t2 tb h3 t3 pl n vs e, (x, instObj 132 dx) ∈ Z → (dx, dictOf [ent h1 "model" t1 (.str mdl tm), ent h2 "precision" t2 (.int bits tb), ent h3 "planes" t3 (.ref pl)] n) ∈ Z → (pl, listOf vs.toArray e) ∈ Z → PlanesAt Z vs g.1 g.2.1 g.2.2 → P) : P := by
  obtain ⟨dx, h1, t1, tm, h2, t2, tb, h3, t3, pl, n, vs, e, a, b, c, d⟩ := h
  exact k dx h1 t1 tm h2 t2 tb h3 t3 pl n vs e a b c d
def stepL (s : Bool × Bool) (g : LV) : LV := (hlf g.1 s.1, hlf g.2.1 s.2, g.2.2.map fun r => halvedG r g.1 g.2.1 s.1 s.2)
def lvTop : List LV → LV
  | [] => (0, 0, [])
  | a :: _ => a
noncomputable def levels : List (Bool × Bool) → LV → List LV
  | [], g => [g]
  | s :: S, g => stepL s (lvTop (levels S g)) :: levels S g
theorem levels_len : ∀ (S : List (Bool × Bool)) (g : LV), (levels S g).length = S.length + 1
  | [], _ => rfl
  | _ :: S, g => by simp [levels, levels_len S g]
/-- the levels on the ledger -/
structure LevelsAt (Z : List (Addr × Obj)) (fv : List Value) (mdl : Str) (bits : Int) (ls : List LV) : Prop where
  len : fv.length = ls.length
  ok : ∀ (j : Nat) (v : Value), fv[j]? = some v → ∃ p, v = .ref p ∧ PicAt Z p mdl bits (ls.getD j (0, 0, []))
theorem LevelsAt.mono {Z Z' : List (Addr × Obj)} {fv : List Value} {mdl : Str} {bits : Int} {ls : List LV} (h : LevelsAt Z fv mdl bits ls) (k : ∀ p ∈ Z, p ∈ Z') : LevelsAt Z' fv mdl bits ls :=
  ⟨h.len, fun j v hv => let ⟨p, e, q⟩ := h.ok j v hv; ⟨p, e, q.mono k⟩⟩
/-- the steps on the ledger: a list of pairs of bools -/
structure StepsAt (Z : List (Addr × Obj)) (vs : List Value) (S : List (Bool × Bool)) : Prop where
  len : vs.length = S.length
  ok : ∀ (j : Nat) (v : Value), vs[j]? = some v → ∃ p n s, S[j]? = some s ∧ v = .ref p ∧ (p, ({ cls := .type "tuple", data := .seq #[.bool s.1, .bool s.2] n } : Obj)) ∈ Z
theorem StepsAt.mono {Z Z' : List (Addr × Obj)} {vs : List Value} {S : List (Bool × Bool)} (h : StepsAt Z vs S) (k : ∀ p ∈ Z, p ∈ Z') : StepsAt Z' vs S :=
  ⟨h.len, fun j v hv => let ⟨p, n, s, e, f, q⟩ := h.ok j v hv; ⟨p, n, s, e, f, k _ q⟩⟩
/-- all its planes may be halved -/
def LvOk (g : LV) : Prop := g.1 < 1000 ∧ g.2.1 < 1000 ∧ 0 < g.2.2.length ∧ g.2.2.length < 1000 ∧ ∀ r ∈ g.2.2, Grid g.1 g.2.1 r
theorem halvedG_grid {r : List (List Int)} {wd hg : Nat} {ac dn : Bool} (ok : Grid wd hg r) : Grid (hlf wd ac) (hlf hg dn) (halvedG r wd hg ac dn) :=
  ⟨by simp [halvedG], by simp [halvedG], hlf_pos ok.wpos, hlf_pos ok.hpos⟩
theorem LvOk.step {s : Bool × Bool} {g : LV} (h : LvOk g) : LvOk (stepL s g) :=
  ⟨hlf_lt h.1, hlf_lt h.2.1, by simp only [stepL, List.length_map]; exact h.2.2.1, by simp only [stepL, List.length_map]; exact h.2.2.2.1, fun r hr => by
    obtain ⟨q, hq, rfl⟩ := List.mem_map.mp hr
    exact halvedG_grid (h.2.2.2.2 q hq)⟩
theorem LvOk.top : ∀ {S : List (Bool × Bool)} {g : LV}, LvOk g → LvOk (lvTop (levels S g))
  | [], _, h => h
  | _ :: S, g, h => (LvOk.top (S := S) h).step
theorem sub_abc {Z tl' : List (Addr × Obj)} {a b c : Addr × Obj} : ∀ p ∈ Z ++ (a :: tl'), p ∈ Z ++ (a :: b :: c :: tl') := by
  intro p hp
  simp only [List.mem_cons, List.mem_append] at hp ⊢
  rcases hp with h | h | h <;> simp [h]
def adr (n : Nat) (tl : List (Addr × Obj)) : Addr := (tl.map (·.1)).getD n 0
theorem adr_one {a b : Addr × Obj} {l : List (Addr × Obj)} : adr 1 (a :: b :: l) = b.1 := rfl
theorem adr_two {a b c : Addr × Obj} {l : List (Addr × Obj)} : adr 2 (a :: b :: c :: l) = c.1 := rfl
/-- what stands before a turn of levels_of -/
def LvG (news : List (Addr × Obj)) (S : List (Bool × Bool)) (g : LV) (x : Addr) (mdl : Str) (bits : Int) (m₀ : Str → Option Value) (tl₀ : List (Addr × Obj)) (i : Nat) (m : Str → Option Value) (tl : List (Addr × Obj)) : Prop :=
  ∃ (fa : Addr) (fv : List Value) (e : Nat) (u : Str → Option Value) (o1 o2 : Obj) (tl' : List (Addr × Obj)), m = (fun y => if y = ("found" : Str) then some (.ref fa) else if (["planes"] : List Str).contains y then u y else m₀ y) ∧ tl = (fa, listOf fv.toArray e) :: (adr 1 tl₀, o2) :: (adr 2 tl₀, o1) :: tl' ∧
    (∃ v, o1.data = .cell v) ∧ (∃ v, o2.data = .cell v) ∧ LevelsAt (news ++ ((fa, listOf fv.toArray e) :: tl')) fv mdl bits (levels (S.drop (S.length - i)) g) ∧ fv[i]? = some (.ref x) ∧
    (∀ p ∈ (fa, listOf fv.toArray e) :: tl', @Ne Nat p.1 (adr 1 tl₀) ∧ @Ne Nat p.1 (adr 2 tl₀)) ∧ @Ne Nat (adr 1 tl₀) (adr 2 tl₀)
theorem rev_start {h₀ h : Heap} {L : Addr} {r a b c : Addr × Obj} {Z : List (Addr × Obj)} (N : News h₀ L h (r :: a :: b :: c :: Z)) : News h₀ L h (r :: (Z ++ [a, b, c])) := fun p hp => N p (by
  simp only [List.mem_cons, List.mem_append, List.not_mem_nil, or_false] at hp ⊢
  rcases hp with h | h | h | h | h <;> simp [h])
theorem rot3 {a b c p : Addr × Obj} {Z : List (Addr × Obj)} (hp : p ∈ Z ++ [a, b, c]) : p ∈ a :: b :: c :: Z := by
  simp only [List.mem_cons, List.mem_append, List.not_mem_nil, or_false] at hp ⊢
  rcases hp with h | h | h | h <;> simp [h]
theorem behind3 {a b c L : Addr} {oa ob oc : Obj} {Z : List (Addr × Obj)} (h : AllLt a Z) (k : ∀ p ∈ Z, @LT.lt Nat _ p.1 L) (hb : @LT.lt Nat _ L b) (hc : @LT.lt Nat _ L c) : Behind Z [(a, oa), (b, ob), (c, oc)] := by
  intro q hq p hp
  have h1 : @LT.lt Nat _ q.1 a := ktn_ltOf h q hq
  have h2 := k q hq
  simp only [List.mem_cons, List.not_mem_nil, or_false] at hp
  rcases hp with rfl | rfl | rfl <;> (show @Ne Nat _ _; k_ne)
theorem PicAt.levels {Z : List (Addr × Obj)} {x : Addr} {mdl : Str} {bits : Int} {g : LV} (h : PicAt Z x mdl bits g) : LevelsAt Z [.ref x] mdl bits [g] :=
  ⟨rfl, fun j v hv => by
    match j, hv with
    | 0, hv => exact ⟨x, by simpa using hv.symm, h⟩⟩
theorem lvg_start {news : List (Addr × Obj)} {S : List (Bool × Bool)} {g : LV} {x : Addr} {mdl : Str} {bits : Int} {m₀ : Str → Option Value} {fa c1 c2 : Addr} {o1 o2 : Obj} {e : Nat} {v1 v2 : Option Value}
    (hm : m₀ ("found" : Str) = some (.ref fa)) (d1 : o1.data = .cell v1) (d2 : o2.data = .cell v2) (hP : PicAt news x mdl bits g) (a : @Ne Nat fa c2 ∧ @Ne Nat fa c1) (b : @Ne Nat c2 c1) :
    LvG news S g x mdl bits m₀ [(fa, listOf #[.ref x] e), (c2, o2), (c1, o1)] 0 m₀ [(fa, listOf #[.ref x] e), (c2, o2), (c1, o1)] := by
  refine ⟨fa, [.ref x], e, m₀, o1, o2, [], ?_, rfl, ⟨_, d1⟩, ⟨_, d2⟩, ?_, rfl, ?_, b⟩
  · funext y
    by_cases h1 : y = ("found" : Str)
    · rw [if_pos h1, h1, hm]
    · rw [if_neg h1, ite_self]
  · have e0 : S.drop (S.length - 0) = [] := by simp
    rw [e0]
    exact (hP.mono fun p hp => List.mem_append_left _ hp).levels
  · intro p hp
    rw [List.mem_singleton.mp hp]
    exact a
theorem levels_perm {h₀ h : Heap} {L : Addr} {r a b c : Addr × Obj} {Z tl : List (Addr × Obj)} (N : News h₀ L h (r :: (Z ++ (a :: b :: c :: tl)))) : News h₀ L h (b :: c :: (r :: (Z ++ (a :: tl)))) := fun p hp => N p (by
  simp only [List.mem_cons, List.mem_append] at hp ⊢
  rcases hp with h | h | h | h | h | h <;> simp [h])
theorem top_at {S : List (Bool × Bool)} {g : LV} : (levels S g).getD 0 (0, 0, []) = lvTop (levels S g) := by cases S <;> rfl
theorem levels_step {S : List (Bool × Bool)} {g : LV} {i : Nat} {s : Bool × Bool} (hi : i < S.length) (hs : S[S.length - 1 - i]? = some s) :
    levels (S.drop (S.length - (i + 1))) g = stepL s (lvTop (levels (S.drop (S.length - i)) g)) :: levels (S.drop (S.length - i)) g := by
  obtain ⟨hlt, e⟩ := List.getElem?_eq_some_iff.mp hs
  have e1 : S.length - (i + 1) = S.length - 1 - i := by omega
  have e2 : S.length - i = S.length - 1 - i + 1 := by omega
  rw [e1, e2, List.drop_eq_getElem_cons hlt, e]
  rfl
theorem w_off {D c : Addr} {oD : Obj} {news X W : List (Addr × Obj)} (hW : W = (D, oD) :: (news ++ X)) (h1 : @Ne Nat c D) (h2 : ∀ p ∈ news, @Ne Nat c p.1) (h3 : ∀ p ∈ X, @Ne Nat p.1 c) : ∀ p ∈ W, p.1 ≠ c := by
  intro p hp
  rw [hW] at hp
  rcases List.mem_cons.mp hp with rfl | hp
  · exact h1.symm
  · rcases List.mem_append.mp hp with hp | hp
    · exact (h2 p hp).symm
    · exact h3 p hp
theorem levels_turn {h₀ h' : Heap} {L D' l' x' d' D3 D c1 c2 fa x : Addr} {fv ys : List Value} {e e' nn : Nat} {ol o1 o2 o1' o2' oD : Obj} {W news Zp tl' tl9 : List (Addr × Obj)} {tl₀ : List (Addr × Obj)} {h1 h2 h3 : Int} {t1 t2 t3 tm tb : Tok}
    {S : List (Bool × Bool)} {g q : LV} {mdl : Str} {bits : Int} {m₀ m' : Str → Option Value} {i : Nat} {ac dn : Bool}
    (N : News h₀ L h' ((D', listOf (.ref x' :: fv).toArray e') :: (l', ol) :: (x', instObj 132 d') :: (d', dictOf [ent h1 "model" t1 (.str mdl tm), ent h2 "precision" t2 (.int bits tb), ent h3 "planes" t3 (.ref D3)] nn) :: (D3, LCg.lst ys) :: (c2, o2') :: (c1, o1') :: (W ++ tl9)))
    (hW : W = (D, oD) :: (news ++ ((fa, listOf fv.toArray e) :: tl')))
    (hlt : ∀ p ∈ (l', ol) :: (x', instObj 132 d') :: (d', dictOf [ent h1 "model" t1 (.str mdl tm), ent h2 "precision" t2 (.int bits tb), ent h3 "planes" t3 (.ref D3)] nn) :: (D3, LCg.lst ys) :: (c2, o2') :: (c1, o1') :: (W ++ tl9), p.1 < D')
    (l1 : D3 < d' ∧ c2 < d' ∧ c1 < d' ∧ AllLt d' (W ++ tl9)) (l2 : d' < x')
    (hb3 : Behind ((c2, o2') :: (c1, o1') :: W) tl9) (off : LCg.Off1 D3 ((c2, o2') :: (c1, o1') :: (W ++ tl9)))
    (hb : Behind news ((fa, listOf fv.toArray e) :: (c2, o2) :: (c1, o1) :: tl')) (hD : ∀ p ∈ news ++ ((fa, listOf fv.toArray e) :: (c2, o2) :: (c1, o1) :: tl'), @Ne Nat p.1 D)
    (ho : ∀ p ∈ (fa, listOf fv.toArray e) :: tl', @Ne Nat p.1 c2 ∧ @Ne Nat p.1 c1) (hne : @Ne Nat c2 c1) (ha2 : adr 1 tl₀ = c2) (ha1 : adr 2 tl₀ = c1)
    (d1 : ∃ v, o1'.data = .cell v) (d2 : ∃ v, o2'.data = .cell v) (hm : ∃ u' : Str → Option Value, m' = fun y => if y = ("found" : Str) then some (.ref D') else if (["planes"] : List Str).contains y then u' y else m₀ y)
    (hL : LevelsAt (Zp ++ ((fa, listOf fv.toArray e) :: tl')) fv mdl bits (levels (S.drop (S.length - i)) g)) (hx : fv[i]? = some (.ref x))
    (hstep : levels (S.drop (S.length - (i + 1))) g = stepL (ac, dn) q :: levels (S.drop (S.length - i)) g) (hl3 : ys.length = q.2.2.length)
    (hR : ∀ (j : Nat) (v : Value), ys[j]? = some v → ∃ p, v = .ref p ∧ PlaneAt tl9 p (hlf q.1 ac) (hlf q.2.1 dn) (halvedG (q.2.2.getD j []) q.1 q.2.1 ac dn)) :
    ∃ tl2, News h₀ L h' ((D, oD) :: (news ++ tl2)) ∧ Behind ((D, oD) :: news) tl2 ∧ LvG Zp S g x mdl bits m₀ tl₀ (i + 1) m' tl2 := by
  obtain ⟨u', hm⟩ := hm
  have mW : ∀ p ∈ W, p = (D, oD) ∨ p ∈ news ∨ p = (fa, listOf fv.toArray e) ∨ p ∈ tl' := fun p hp => by
    rw [hW] at hp; simpa using hp
  have inW : ∀ p, p = (D, oD) ∨ p ∈ news ∨ p = (fa, listOf fv.toArray e) ∨ p ∈ tl' → p ∈ W := fun p hp => by
    rw [hW]; simpa using hp
  have offm := off1_all off
  have lW : ∀ p ∈ W ++ tl9, @LT.lt Nat _ p.1 d' := fun p hp => ktn_ltOf l1.2.2.2 p hp
  have l2' : @LT.lt Nat _ d' x' := l2
  have lD3 : @LT.lt Nat _ D3 d' := l1.1
  have lc2 : @LT.lt Nat _ c2 d' := l1.2.1
  have lc1 : @LT.lt Nat _ c1 d' := l1.2.2.1
  obtain ⟨TL, hTL⟩ : ∃ TL, TL = (x', instObj 132 d') :: (d', dictOf [ent h1 "model" t1 (.str mdl tm), ent h2 "precision" t2 (.int bits tb), ent h3 "planes" t3 (.ref D3)] nn) :: (D3, LCg.lst ys) :: (((fa, listOf fv.toArray e) :: tl') ++ tl9) := ⟨_, rfl⟩
  -- what TL's objects are
  have kTL : ∀ p ∈ TL, p = (x', instObj 132 d') ∨ p = (d', dictOf [ent h1 "model" t1 (.str mdl tm), ent h2 "precision" t2 (.int bits tb), ent h3 "planes" t3 (.ref D3)] nn) ∨ p = (D3, LCg.lst ys) ∨ p = (fa, listOf fv.toArray e) ∨ p ∈ tl' ∨ p ∈ tl9 := fun p hp => by
    rw [hTL] at hp; simpa using hp
  have nTL : ∀ p ∈ TL, p ∈ (l', ol) :: (x', instObj 132 d') :: (d', dictOf [ent h1 "model" t1 (.str mdl tm), ent h2 "precision" t2 (.int bits tb), ent h3 "planes" t3 (.ref D3)] nn) :: (D3, LCg.lst ys) :: (c2, o2') :: (c1, o1') :: (W ++ tl9) := fun p hp => by
    rcases kTL p hp with h | h | h | h | h | h
    · simp [h]
    · simp [h]
    · simp [h]
    · have := inW p (.inr (.inr (.inl h))); simp [this]
    · have := inW p (.inr (.inr (.inr h))); simp [this]
    · simp [h]
  have bD : ∀ q ∈ W, ∀ p ∈ tl9, p.1 ≠ q.1 := fun q hq p hp => hb3 q (by simp [hq]) p hp
  -- the objects of TL are none of W's first part, nor the cells
  have apart : ∀ q : Addr × Obj, q = (D, oD) ∨ q ∈ news → ∀ p ∈ TL, p.1 ≠ q.1 := fun q hq p hp => by
    have hqW : q ∈ W := inW q (by rcases hq with h | h <;> simp [h])
    have lq := lW q (List.mem_append_left _ hqW)
    rcases kTL p hp with rfl | rfl | rfl | rfl | h | h
    · show @Ne Nat _ _; k_ne
    · show @Ne Nat _ _; k_ne
    · exact fun e => offm q (by simp [hqW]) e.symm
    · rcases hq with rfl | hq
      · exact hD _ (by simp)
      · exact hb q hq _ (by simp)
    · rcases hq with rfl | hq
      · exact hD _ (by simp [h])
      · exact hb q hq _ (by simp [h])
    · exact bD q hqW p h
  have apC : ∀ p ∈ TL, @Ne Nat p.1 c2 ∧ @Ne Nat p.1 c1 := fun p hp => by
    rcases kTL p hp with rfl | rfl | rfl | rfl | h | h
    · exact ⟨by show @Ne Nat _ _; k_ne, by show @Ne Nat _ _; k_ne⟩
    · exact ⟨by show @Ne Nat _ _; k_ne, by show @Ne Nat _ _; k_ne⟩
    · exact ⟨fun e => offm (c2, o2') (by simp) e.symm, fun e => offm (c1, o1') (by simp) e.symm⟩
    · exact ho _ (by simp)
    · exact ho _ (by simp [h])
    · exact ⟨hb3 (c2, o2') (by simp) p h, hb3 (c1, o1') (by simp) p h⟩
  refine ⟨(D', listOf (.ref x' :: fv).toArray e') :: (c2, o2') :: (c1, o1') :: TL, fun p hp => N p ?_, ?_, D', .ref x' :: fv, e', u', o1', o2', TL, hm, by rw [ha1, ha2], d1, d2, ?_, by simpa using hx, ?_, by rw [ha1, ha2]; exact hne⟩
  · simp only [List.mem_cons, List.mem_append] at hp
    rcases hp with h | h | h | h | h | h
    · have := inW p (.inl h); simp [this]
    · have := inW p (.inr (.inl h)); simp [this]
    · simp [h]
    · simp [h]
    · simp [h]
    · exact List.mem_cons_of_mem _ (nTL p h)
  · intro q hq p hp
    have hq' : q = (D, oD) ∨ q ∈ news := by simpa using hq
    have hqW : q ∈ W := inW q (by rcases hq' with h | h <;> simp [h])
    rcases List.mem_cons.mp hp with rfl | hp
    · exact Nat.ne_of_gt (hlt q (by simp [hqW]))
    · rcases List.mem_cons.mp hp with rfl | hp
      · rcases hq' with rfl | hq'
        · exact hD (c2, o2) (by simp)
        · exact hb q hq' (c2, o2) (by simp)
      · rcases List.mem_cons.mp hp with rfl | hp
        · rcases hq' with rfl | hq'
          · exact hD (c1, o1) (by simp)
          · exact hb q hq' (c1, o1) (by simp)
        · exact apart q hq' p hp
  · rw [hstep]
    refine ⟨by simp [hL.len], fun j v hv => ?_⟩
    match j, hv with
    | 0, hv =>
      refine ⟨x', by simpa using hv.symm, d', h1, t1, tm, h2, t2, tb, h3, t3, D3, nn, ys, ys.length, by simp [hTL], by simp [hTL], by simp [hTL], ?_, fun j v hv => ?_⟩
      · show _ = (q.2.2.map _).length
        rw [List.length_map, hl3]
      · obtain ⟨p, e, hp⟩ := hR j v hv
        refine ⟨p, e, ?_⟩
        have hj : j < q.2.2.length := by rw [← hl3]; exact (List.getElem?_eq_some_iff.mp hv).1
        have e9 : (stepL (ac, dn) q).2.2.getD j [] = halvedG (q.2.2.getD j []) q.1 q.2.1 ac dn := by
          simp [stepL, List.getD_eq_getElem?_getD, List.getElem?_eq_getElem hj]
        have hp2 := hp.mono (Z' := Zp ++ (D', listOf (.ref x' :: fv).toArray e') :: TL) (fun r hr => by simp [hTL, hr])
        show PlaneAt _ _ _ _ ((stepL (ac, dn) q).2.2.getD j [])
        rw [e9]
        exact hp2
    | j + 1, hv =>
      obtain ⟨p, e, hp⟩ := hL.ok j v (by simpa using hv)
      exact ⟨p, e, hp.mono fun r hr => by
        simp only [List.mem_append, List.mem_cons] at hr
        rcases hr with h | h | h <;> simp [hTL, h]⟩
  · intro p hp
    rw [ha1, ha2]
    rcases List.mem_cons.mp hp with rfl | hp
    · have a := hlt (c2, o2') (by simp)
      have b := hlt (c1, o1') (by simp)
      exact ⟨Nat.ne_of_gt a, Nat.ne_of_gt b⟩
    · exact apC p hp
theorem levels_end {h₀ h' : Heap} {L D' l' x' d' D3 D c1 c2 fa x : Addr} {fv ys : List Value} {e e' nn : Nat} {ol o1 o2 o1' o2' oD : Obj} {W news Zp tl' tl9 : List (Addr × Obj)} {tl₀ : List (Addr × Obj)} {h1 h2 h3 : Int} {t1 t2 t3 tm tb : Tok}
    {S : List (Bool × Bool)} {g q : LV} {mdl : Str} {bits : Int} {m₀ m' : Str → Option Value} {i : Nat} {ac dn : Bool}
    {sh : Shared} {tk : Nat} (F : Fr h₀ L h' m') (N : News h₀ L h' ((D', listOf (.ref x' :: fv).toArray e') :: (l', ol) :: (x', instObj 132 d') :: (d', dictOf [ent h1 "model" t1 (.str mdl tm), ent h2 "precision" t2 (.int bits tb), ent h3 "planes" t3 (.ref D3)] nn) :: (D3, LCg.lst ys) :: (c2, o2') :: (c1, o1') :: (W ++ tl9)))
    (hW : W = (D, oD) :: (news ++ ((fa, listOf fv.toArray e) :: tl')))
    (hlt : ∀ p ∈ (l', ol) :: (x', instObj 132 d') :: (d', dictOf [ent h1 "model" t1 (.str mdl tm), ent h2 "precision" t2 (.int bits tb), ent h3 "planes" t3 (.ref D3)] nn) :: (D3, LCg.lst ys) :: (c2, o2') :: (c1, o1') :: (W ++ tl9), p.1 < D')
    (l1 : D3 < d' ∧ c2 < d' ∧ c1 < d' ∧ AllLt d' (W ++ tl9)) (l2 : d' < x')
    (hb3 : Behind ((c2, o2') :: (c1, o1') :: W) tl9) (off : LCg.Off1 D3 ((c2, o2') :: (c1, o1') :: (W ++ tl9)))
    (hb : Behind news ((fa, listOf fv.toArray e) :: (c2, o2) :: (c1, o1) :: tl')) (hD : ∀ p ∈ news ++ ((fa, listOf fv.toArray e) :: (c2, o2) :: (c1, o1) :: tl'), @Ne Nat p.1 D)
    (ho : ∀ p ∈ (fa, listOf fv.toArray e) :: tl', @Ne Nat p.1 c2 ∧ @Ne Nat p.1 c1) (hne : @Ne Nat c2 c1) (ha2 : adr 1 tl₀ = c2) (ha1 : adr 2 tl₀ = c1)
    (d1 : ∃ v, o1'.data = .cell v) (d2 : ∃ v, o2'.data = .cell v) (hm1 : m' ("found" : Str) = some (.ref D')) (hm2 : ∀ y, y ≠ ("found" : Str) → y ≠ ("planes" : Str) → m' y = m₀ y)
    (hL : LevelsAt (Zp ++ ((fa, listOf fv.toArray e) :: tl')) fv mdl bits (levels (S.drop (S.length - i)) g)) (hx : fv[i]? = some (.ref x))
    (hstep : levels (S.drop (S.length - (i + 1))) g = stepL (ac, dn) q :: levels (S.drop (S.length - i)) g) (hl3 : ys.length = q.2.2.length)
    (hR : ∀ (j : Nat) (v : Value), ys[j]? = some v → ∃ p, v = .ref p ∧ PlaneAt tl9 p (hlf q.1 ac) (hlf q.2.1 dn) (halvedG (q.2.2.getD j []) q.1 q.2.1 ac dn)) :
    ∃ h9 tk9 m9 tl9', ({ sh with heap := h', toks := tk } : Shared) = { sh with heap := h9, toks := tk9 } ∧ Fr h₀ L h9 m9 ∧ News h₀ L h9 ((D, oD) :: (news ++ tl9')) ∧ Behind ((D, oD) :: news) tl9' ∧ LvG Zp S g x mdl bits m₀ tl₀ (i + 1) m9 tl9' := by
  obtain ⟨tl2, a, b, c⟩ := levels_turn (m' := m') (m₀ := m₀) N hW hlt l1 l2 hb3 off hb hD ho hne ha2 ha1 d1 d2 ⟨m', by
    funext y
    by_cases h1 : y = ("found" : Str)
    · rw [if_pos h1, h1, hm1]
    · rw [if_neg h1]
      by_cases h2 : y = ("planes" : Str)
      · rw [if_pos (by rw [h2]; decide)]
      · rw [if_neg (by simpa using h2)]
        exact hm2 y h1 h2⟩ hL hx hstep hl3 hR
  exact ⟨h', tk, m', tl2, rfl, F, a, b, c⟩
end
section
section
variable {w : World} {p : Program} {loose : List Str} {mean : ExcName → Option Value} {mg mb : Str → Option Value} {dp un : Nat} {gd : Option (List Code)} {cn : Str} {cs : Scope} {a : Addr} {ccd : Value} {cl : List (Str × Addr)} {outer : List Env} {A₀ : Around} {base h₀ : Heap} {L : Addr} {m : Str → Option Value} {news : List (Addr × Obj)} {s : Shared} {Q E : Value → Shared → Prop}
theorem kwB2_1 : True := by
  w_top off
  k_with_none
  (k_with "andf" => (first | assumption | exact And.left (by assumption) | exact And.left (And.right (by assumption)) | exact And.left (And.right (And.right (by assumption))) | exact And.left (And.right (And.right (And.right (by assumption)))) | exact And.left (And.right (And.right (And.right (And.right (by assumption))))) | exact And.left (And.right (And.right (And.right (And.right (And.right (by assumption)))))) | exact And.left (And.right (And.right (And.right (And.right (And.right (And.right (by assumption))))))) | exact And.left (And.right (And.right (And.right (And.right (And.right (And.right (And.right (by assumption)))))))) | exact And.left (And.right (And.right (And.right (And.right (And.right (And.right (And.right (And.right (by assumption))))))))) | exact And.left (And.right (And.right (And.right (And.right (And.right (And.right (And.right (And.right (And.right (by assumption)))))))))) | exact And.left (And.right (And.right (And.right (And.right (And.right (And.right (And.right (And.right (And.right (And.right (by assumption))))))))))) | exact And.left (And.right (And.right (And.right (And.right (And.right (And.right (And.right (And.right (And.right (And.right (And.right (by assumption)))))))))))) | exact And.left (And.right (And.right (And.right (And.right (And.right (And.right (And.right (And.right (And.right (And.right (And.right (And.right (by assumption))))))))))))) | exact And.left (And.right (And.right (And.right (And.right (And.right (And.right (And.right (And.right (And.right (And.right (And.right (And.right (And.right (by assumption))))))))))))))))
  (k_with "k_ne" => ((refine neN ?_; (try dsimp only); first | assumption | exact fun kwe9 => absurd kwe9.symm (by assumption) | exact ne_up1 | exact up_ne1 | exact ne_up2 | exact up_ne2 | exact ne_up3 | exact up_ne3 | exact ne_up4 | exact up_ne4 | exact ne_up5 | exact up_ne5 | exact ne_up6 | exact up_ne6 | exact ne_up7 | exact up_ne7 | exact Nat.ne_of_gt (by k_extra "andf") | exact Nat.ne_of_lt (by k_extra "andf") | omega)))
  (k_with "ktr_rel" => (first | exact List.mem_cons_self | ktr_member | (refine List.mem_cons_of_mem _ ?_; ktr_rel) | (refine List.mem_append.mpr (Or.inl ?_); ktr_rel) | (refine List.mem_append.mpr (Or.inr ?_); ktr_rel)))
  trivial
theorem kept_spec {px sz : Int} {tx ty : Tok}
  (B : Below A₀ base outer h₀) (F : Fr h₀ L s.heap m) (X : (hd.heap_1 w.params).In h₀) (N : News h₀ L s.heap news) (T : Top p loose mean mg mb h₀) (hk : cs.kind = .function)
  (hdp : dp + 1 < recursionLimit) (hun : un + 8 < cLine)
  (ret : ∀ t h' tk', Fr h₀ L h' m → News h₀ L h' news → Q (.int (keptN px sz) t) { s with heap := h', toks := tk' }) :
  wpAny (model PySem.Challenge.rw_ok0141_01.row.prog w) (ktrTop dp un gd cn cs L a ccd cl outer) (call (.ref 143) [.int px tx, .int sz ty]) Q E s := by
  have hfill : PySem.Challenge.rw_ok0141_01 = PySem.Challenge.rw_ok0141_01 ∧ hd.heap_1 = hd.heap_1 := by k_fill; exact ⟨rfl, rfl⟩
  clear hfill
  refine wpAny_call ?_
  k_dflt ktr_enter
  k_steps
  · have h1 : px < 0 := by assumption
    simp only [keptN, if_pos h1] at ret
    exact ret _ _ _ (by assumption) (by assumption)
  · have h1 : ¬ px < 0 := by assumption
    have h2 : px < sz := by assumption
    simp only [keptN, if_neg h1, if_pos h2] at ret
    exact ret _ _ _ (by assumption) (by assumption)
  · have h1 : ¬ px < 0 := by assumption
    have h2 : ¬ px < sz := by assumption
    simp only [keptN, if_neg h1, if_neg h2] at ret
    exact ret _ _ _ (by assumption) (by assumption)

theorem kwB2_2 : True := by
  w_top off
  k_with_none
  (k_with "andf" => (first | assumption | exact And.left (by assumption) | exact And.left (And.right (by assumption)) | exact And.left (And.right (And.right (by assumption))) | exact And.left (And.right (And.right (And.right (by assumption)))) | exact And.left (And.right (And.right (And.right (And.right (by assumption))))) | exact And.left (And.right (And.right (And.right (And.right (And.right (by assumption)))))) | exact And.left (And.right (And.right (And.right (And.right (And.right (And.right (by assumption))))))) | exact And.left (And.right (And.right (And.right (And.right (And.right (And.right (And.right (by assumption)))))))) | exact And.left (And.right (And.right (And.right (And.right (And.right (And.right (And.right (And.right (by assumption))))))))) | exact And.left (And.right (And.right (And.right (And.right (And.right (And.right (And.right (And.right (And.right (by assumption)))))))))) | exact And.left (And.right (And.right (And.right (And.right (And.right (And.right (And.right (And.right (And.right (And.right (by assumption))))))))))) | exact And.left (And.right (And.right (And.right (And.right (And.right (And.right (And.right (And.right (And.right (And.right (And.right (by assumption)))))))))))) | exact And.left (And.right (And.right (And.right (And.right (And.right (And.right (And.right (And.right (And.right (And.right (And.right (And.right (by assumption))))))))))))) | exact And.left (And.right (And.right (And.right (And.right (And.right (And.right (And.right (And.right (And.right (And.right (And.right (And.right (And.right (by assumption))))))))))))))))
  (k_with "k_ne" => ((refine neN ?_; (try dsimp only); first | assumption | exact fun kwe9 => absurd kwe9.symm (by assumption) | exact ne_up1 | exact up_ne1 | exact ne_up2 | exact up_ne2 | exact ne_up3 | exact up_ne3 | exact ne_up4 | exact up_ne4 | exact ne_up5 | exact up_ne5 | exact ne_up6 | exact up_ne6 | exact ne_up7 | exact up_ne7 | exact Nat.ne_of_gt (by k_extra "andf") | exact Nat.ne_of_lt (by k_extra "andf") | omega)))
  (k_with "ktr_rel" => (first | exact List.mem_cons_self | ktr_member | (refine List.mem_cons_of_mem _ ?_; ktr_rel) | (refine List.mem_append.mpr (Or.inl ?_); ktr_rel) | (refine List.mem_append.mpr (Or.inr ?_); ktr_rel)))
  (k_with "call ref" => (((with_reducible show wpAny _ _ (call (Value.ref 143) _) _ _ _); k_dflt (refine kept_spec (by k_asm) (by k_asm) (by k_asm) (by k_asm) (by k_asm) (by first | rfl | assumption) (by ktr_room) (by ktr_units) ?_); intro kwt kwh kwtk kwF kwN; (try dsimp only); (try k_sweep))))
  trivial
theorem at_spec {x : Addr} {wd hg : Nat} {rows : List (List Int)} {px py : Int} {tx ty : Tok}
  (B : Below A₀ base outer h₀) (F : Fr h₀ L s.heap m) (X : (hd.heap_1 w.params).In h₀) (N : News h₀ L s.heap news) (T : Top p loose mean mg mb h₀) (hk : cs.kind = .function)
  (hP : PlaneAt news x wd hg rows) (hw : wd < 1000) (hh : hg < 1000) (hdp : dp + 5 < recursionLimit) (hun : un + 40 < cLine)
  (ret : ∀ t h' tk', Fr h₀ L h' m → News h₀ L h' news → Q (.int (cellG rows (keptN py hg).toNat (keptN px wd).toNat) t) { s with heap := h', toks := tk' }) :
  wpAny (model PySem.Challenge.rw_ok0141_01.row.prog w) (ktrTop dp un gd cn cs L a ccd cl outer) (call (.ref 84) [.ref x, .int px tx, .int py ty]) Q E s := by
  have hfill : PySem.Challenge.rw_ok0141_01 = PySem.Challenge.rw_ok0141_01 ∧ hd.heap_1 = hd.heap_1 := by k_fill; exact ⟨rfl, rfl⟩
  clear hfill
  refine hP.elim ?_
  clear hP
  intro dx h1 t1 h2 t2 h3 t3 n tw th vr hx hdx hvr ok
  obtain ⟨ar, vs, nn, rfl, har, hrs⟩ := grid_open hvr
  have by1 := keptN_lt (p := py) ok.hpos
  have bx1 := keptN_lt (p := px) ok.wpos
  obtain ⟨vrow, hvrow, hrow⟩ := row_at hrs (k := (keptN py hg).toNat) (by rw [ok.len]; exact by1.2.1)
  obtain ⟨arow, us, un', rfl, harow, hus⟩ := row_open hrow
  have hlen : (rows.getD (keptN py hg).toNat []).length = wd := ok.row _ (by
    have : (keptN py hg).toNat < rows.length := by rw [ok.len]; exact by1.2.1
    rw [List.getD_eq_getElem?_getD, List.getElem?_eq_getElem this]; exact List.getElem_mem this)
  obtain ⟨ti, hi⟩ := int_at hus (k := (keptN px wd).toNat) (by rw [hlen]; exact bx1.2.1)
  refine wpAny_call ?_
  k_dflt ktr_enter
  k_steps
  refine item_led (by assumption) har by1.1 (by omega) hvrow ?_
  k_steps

  exact ret _ _ _ (by assumption) (by assumption)
def lotD (x0 x1 k : Int) : Int := if 0 < x0 then x0.fmod k else (((((x1 * 40692 + 271).fmod 2147483399) * ((x1 * 40692 + 271).fmod 2147483399)).fmod 2147483549).fdiv 16).fmod k
def lot0 (x0 k : Int) : Int := if 0 < x0 then x0.fdiv k else x0
def lot1 (x0 x1 : Int) : Int := if 0 < x0 then x1 else (x1 * 40692 + 271).fmod 2147483399

theorem mulOk_small {a b : Int} (h1 : 0 ≤ a) (h2 : a < 18446744073709551616) : IntMulOk a b := IntMulOk.of_left (bits_small h1 h2)
theorem mulOk_mod {x y k b : Int} (hk1 : 0 < k) (hk2 : k ≤ 4294967296) : IntMulOk ([y, x.fmod k].getD (Int.toNat 1) 0) b :=
  mulOk_small (Int.fmod_nonneg_of_pos _ hk1) (by have := Int.fmod_lt_of_pos x hk1; show x.fmod k < _; omega)
theorem kwB2_3 : True := by
  w_top off
  k_with_none
  (k_with "andf" => (first | assumption | exact And.left (by assumption) | exact And.left (And.right (by assumption)) | exact And.left (And.right (And.right (by assumption))) | exact And.left (And.right (And.right (And.right (by assumption)))) | exact And.left (And.right (And.right (And.right (And.right (by assumption))))) | exact And.left (And.right (And.right (And.right (And.right (And.right (by assumption)))))) | exact And.left (And.right (And.right (And.right (And.right (And.right (And.right (by assumption))))))) | exact And.left (And.right (And.right (And.right (And.right (And.right (And.right (And.right (by assumption)))))))) | exact And.left (And.right (And.right (And.right (And.right (And.right (And.right (And.right (And.right (by assumption))))))))) | exact And.left (And.right (And.right (And.right (And.right (And.right (And.right (And.right (And.right (And.right (by assumption)))))))))) | exact And.left (And.right (And.right (And.right (And.right (And.right (And.right (And.right (And.right (And.right (And.right (by assumption))))))))))) | exact And.left (And.right (And.right (And.right (And.right (And.right (And.right (And.right (And.right (And.right (And.right (And.right (by assumption)))))))))))) | exact And.left (And.right (And.right (And.right (And.right (And.right (And.right (And.right (And.right (And.right (And.right (And.right (And.right (by assumption))))))))))))) | exact And.left (And.right (And.right (And.right (And.right (And.right (And.right (And.right (And.right (And.right (And.right (And.right (And.right (And.right (by assumption))))))))))))))))
  (k_with "k_ne" => ((refine neN ?_; (try dsimp only); first | assumption | exact fun kwe9 => absurd kwe9.symm (by assumption) | exact ne_up1 | exact up_ne1 | exact ne_up2 | exact up_ne2 | exact ne_up3 | exact up_ne3 | exact ne_up4 | exact up_ne4 | exact ne_up5 | exact up_ne5 | exact ne_up6 | exact up_ne6 | exact ne_up7 | exact up_ne7 | exact Nat.ne_of_gt (by k_extra "andf") | exact Nat.ne_of_lt (by k_extra "andf") | omega)))
  (k_with "ktr_rel" => (first | exact List.mem_cons_self | ktr_member | (refine List.mem_cons_of_mem _ ?_; ktr_rel) | (refine List.mem_append.mpr (Or.inl ?_); ktr_rel) | (refine List.mem_append.mpr (Or.inr ?_); ktr_rel)))
  (k_with "call ref" => (((with_reducible show wpAny _ _ (call (Value.ref 143) _) _ _ _); k_dflt (refine kept_spec (by k_asm) (by k_asm) (by k_asm) (by k_asm) (by k_asm) (by first | rfl | assumption) (by ktr_room) (by ktr_units) ?_); intro kwt kwh kwtk kwF kwN; (try dsimp only); (try k_sweep))))
  (k_with "mul_fits" => (exact mulOk_mod (by decide) (by decide)))
  trivial
theorem lot_spec {u : Addr} {x0 x1 : Int} {t0 t1 : Tok} {nn : Nat} {k : Int} {tk : Tok}
  (B : Below A₀ base outer h₀) (F : Fr h₀ L s.heap m) (X : (hd.heap_1 w.params).In h₀) (N : News h₀ L s.heap ((u, listOf #[.int x0 t0, .int x1 t1] nn) :: news)) (T : Top p loose mean mg mb h₀) (hk : cs.kind = .function)
  (hoff : OwnOff news [u]) (hx0 : 0 ≤ x0) (hx1 : 0 ≤ x1) (hx2 : x1 < 2147490000) (hk2 : 1 ≤ k) (hk3 : k ≤ 4096) (hdp : dp + 1 < recursionLimit) (hun : un + 8 < cLine)
  (ret : ∀ t t0' t1' n' h' tk', Fr h₀ L h' m → News h₀ L h' ((u, listOf #[.int (lot0 x0 k) t0', .int (lot1 x0 x1) t1'] n') :: news) → Q (.int (lotD x0 x1 k) t) { s with heap := h', toks := tk' }) :
  wpAny (model PySem.Challenge.rw_ok0141_01.row.prog w) (ktrTop dp un gd cn cs L a ccd cl outer) (call (.ref 307) [.ref u, .int k tk]) Q E s := by
  have hfill : PySem.Challenge.rw_ok0141_01 = PySem.Challenge.rw_ok0141_01 ∧ hd.heap_1 = hd.heap_1 := by k_fill; exact ⟨rfl, rfl⟩
  clear hfill
  refine wpAny_call ?_
  k_dflt ktr_enter
  k_steps
  · have ha : 0 < x0 := by assumption
    simp only [lotD, lot0, lot1, if_pos ha] at ret
    exact ret _ _ _ _ _ _ (by assumption) (by assumption)
  · have ha : ¬ 0 < x0 := by assumption
    simp only [lotD, lot0, lot1, if_neg ha] at ret
    exact ret _ _ _ _ _ _ (by assumption) (by assumption)
theorem lot_bounds {x0 x1 k : Int} (h0 : 0 ≤ x0) (hk : 1 ≤ k) : 0 ≤ lotD x0 x1 k ∧ lotD x0 x1 k < k ∧ 0 ≤ lot0 x0 k := by
  have kp : 0 < k := by omega
  refine ⟨?_, ?_, ?_⟩
  · unfold lotD; split <;> exact Int.fmod_nonneg_of_pos _ kp
  · unfold lotD; split <;> exact Int.fmod_lt_of_pos _ kp
  · unfold lot0
    split
    · exact Int.fdiv_nonneg h0 (by omega)
    · exact h0
theorem lot1_bounds {x0 x1 : Int} (h1 : 0 ≤ x1) (h2 : x1 < 2147490000) : 0 ≤ lot1 x0 x1 ∧ lot1 x0 x1 < 2147490000 := by
  unfold lot1
  split
  · exact ⟨h1, h2⟩
  · have a := Int.fmod_nonneg_of_pos (x1 * 40692 + 271) (show (0 : Int) < 2147483399 by decide)
    have b := Int.fmod_lt_of_pos (x1 * 40692 + 271) (show (0 : Int) < 2147483399 by decide)
    omega
theorem lot3_spec {u : Addr} {x0 x1 : Int} {t0 t1 : Tok} {nn : Nat} {k : Int} {tk : Tok} {g : Obj → List (Addr × Obj)}
  (B : Below A₀ base outer h₀) (F : Fr h₀ L s.heap m) (X : (hd.heap_1 w.params).In h₀) (N : News h₀ L s.heap news) (T : Top p loose mean mg mb h₀) (hk : cs.kind = .function)
  (U : UpdF u (listOf #[.int x0 t0, .int x1 t1] nn) news g) (hx0 : 0 ≤ x0) (hx1 : 0 ≤ x1) (hx2 : x1 < 2147490000) (hk2 : 1 ≤ k) (hk3 : k ≤ 4096) (hdp : dp + 1 < recursionLimit) (hun : un + 8 < cLine)
  (ret : ∀ d t y0 y1 t0' t1' n' h' tk', 0 ≤ d → d < k → 0 ≤ y0 → 0 ≤ y1 → y1 < 2147490000 → Fr h₀ L h' m → News h₀ L h' (g (listOf #[.int y0 t0', .int y1 t1'] n')) → Q (.int d t) { s with heap := h', toks := tk' }) :
  wpAny (model PySem.Challenge.rw_ok0141_01.row.prog w) (ktrTop dp un gd cn cs L a ccd cl outer) (call (.ref 307) [.ref u, .int k tk]) Q E s := by
  obtain ⟨own, rest, rfl, hg, h1, h2⟩ := U.split
  obtain ⟨b1, b2, b3⟩ := lot_bounds (x1 := x1) hx0 hk2
  obtain ⟨c1, c2⟩ := lot1_bounds (x0 := x0) hx1 hx2
  refine lot_spec (news := own ++ rest) (t0 := t0) (t1 := t1) (nn := nn) B F X (fun p hp => N p ?_) T hk ?_ hx0 hx1 hx2 hk2 hk3 hdp hun ?_
  · simp only [List.mem_cons, List.mem_append] at hp ⊢
    rcases hp with h | h | h <;> simp [h]
  · intro p hp b hb
    rw [List.mem_singleton.mp hb]
    rcases List.mem_append.mp hp with hp | hp
    · exact h1 p hp
    · exact h2 p hp
  · intro t t0' t1' n' h' tk' F' N'
    refine ret _ _ _ _ t0' t1' n' _ _ b1 b2 b3 c1 c2 F' ?_
    rw [hg]
    intro p hp
    refine N' p ?_
    simp only [List.mem_cons, List.mem_append] at hp ⊢
    rcases hp with h | h | h <;> simp [h]
end
end
section
theorem kwB3_1 : True := by
  w_top off
  k_with_none
  (k_with "andf" => (first | assumption | exact And.left (by assumption) | exact And.left (And.right (by assumption)) | exact And.left (And.right (And.right (by assumption))) | exact And.left (And.right (And.right (And.right (by assumption)))) | exact And.left (And.right (And.right (And.right (And.right (by assumption))))) | exact And.left (And.right (And.right (And.right (And.right (And.right (by assumption)))))) | exact And.left (And.right (And.right (And.right (And.right (And.right (And.right (by assumption))))))) | exact And.left (And.right (And.right (And.right (And.right (And.right (And.right (And.right (by assumption)))))))) | exact And.left (And.right (And.right (And.right (And.right (And.right (And.right (And.right (And.right (by assumption))))))))) | exact And.left (And.right (And.right (And.right (And.right (And.right (And.right (And.right (And.right (And.right (by assumption)))))))))) | exact And.left (And.right (And.right (And.right (And.right (And.right (And.right (And.right (And.right (And.right (And.right (by assumption))))))))))) | exact And.left (And.right (And.right (And.right (And.right (And.right (And.right (And.right (And.right (And.right (And.right (And.right (by assumption)))))))))))) | exact And.left (And.right (And.right (And.right (And.right (And.right (And.right (And.right (And.right (And.right (And.right (And.right (And.right (by assumption))))))))))))) | exact And.left (And.right (And.right (And.right (And.right (And.right (And.right (And.right (And.right (And.right (And.right (And.right (And.right (And.right (by assumption))))))))))))))))
  (k_with "k_ne" => ((refine neN ?_; (try dsimp only); first | assumption | exact fun kwe9 => absurd kwe9.symm (by assumption) | exact ne_up1 | exact up_ne1 | exact ne_up2 | exact up_ne2 | exact ne_up3 | exact up_ne3 | exact ne_up4 | exact up_ne4 | exact ne_up5 | exact up_ne5 | exact ne_up6 | exact up_ne6 | exact ne_up7 | exact up_ne7 | exact Nat.ne_of_gt (by k_extra "andf") | exact Nat.ne_of_lt (by k_extra "andf") | omega)))
  (k_with "ktr_rel" => (first | exact List.mem_cons_self | ktr_member | (refine List.mem_cons_of_mem _ ?_; ktr_rel) | (refine List.mem_append.mpr (Or.inl ?_); ktr_rel) | (refine List.mem_append.mpr (Or.inr ?_); ktr_rel)))
  trivial
def Mdl (m : Str) : Prop := m = ("grey" : Str) ∨ m = ("ycc" : Str) ∨ m = ("rgb" : Str) ∨ m = ("ycck" : Str) ∨ m = ("raw" : Str)
def slotOf (m : Str) (p : Nat) : Int := if (m = ("ycc" : Str) ∨ m = ("ycck" : Str)) ∧ (p = 1 ∨ p = 2) then 1 else 0
structure SetAt (Z : List (Addr × Obj)) (x : Addr) (kd mdl : Str) (sd : Int) : Prop where
  ex : ∃ dx h1 t1 k1 h2 t2 k2 h3 t3 h4 t4 k4 h5 t5 h6 t6 h7 t7 k7 h8 t8 k8 n, (x, instObj 289 dx) ∈ Z ∧
    (dx, dictOf [ent h1 "kind" t1 (.str kd k1), ent h2 "quality" t2 (.int 75 k2), ent h3 "sampling" t3 .none, ent h4 "interval" t4 (.int 0 k4), ent h5 "optimise" t5 (.bool false), ent h6 "scans" t6 .none, ent h7 "n" t7 (.int sd k7), ent h8 "model" t8 (.str mdl k8)] n) ∈ Z
theorem SetAt.mono {Z Z' : List (Addr × Obj)} {x : Addr} {kd mdl : Str} {sd : Int} (h : SetAt Z x kd mdl sd) (k : ∀ p ∈ Z, p ∈ Z') : SetAt Z' x kd mdl sd := by
  obtain ⟨dx, h1, t1, k1, h2, t2, k2, h3, t3, h4, t4, k4, h5, t5, h6, t6, h7, t7, k7, h8, t8, k8, n, a, b⟩ := h
  exact ⟨dx, h1, t1, k1, h2, t2, k2, h3, t3, h4, t4, k4, h5, t5, h6, t6, h7, t7, k7, h8, t8, k8, n, k _ a, k _ b⟩
theorem SetAt.elim {Z : List (Addr × Obj)} {x : Addr} {kd mdl : Str} {sd : Int} {P : Prop} (h : SetAt Z x kd mdl sd) (k : ∀ dx h1 t1 k1 h2 t2 k2 h3 t3 h4 t4 k4 h5 t5 h6 t6 h7 t7 k7 h8 t8 k8 n, (x, instObj 289 dx) ∈ Z →
    (dx, dictOf [ent h1 "kind" t1 (.str kd k1), ent h2 "quality" t2 (.int 75 k2), ent h3 "sampling" t3 .none, ent h4 "interval" t4 (.int 0 k4), ent h5 "optimise" t5 (.bool false), ent h6 "scans" t6 .none, ent h7 "n" t7 (.int sd k7), ent h8 "model" t8 (.str mdl k8)] n) ∈ Z → P) : P := by
  obtain ⟨dx, h1, t1, k1, h2, t2, k2, h3, t3, h4, t4, k4, h5, t5, h6, t6, h7, t7, k7, h8, t8, k8, n, a, b⟩ := h
  exact k dx h1 t1 k1 h2 t2 k2 h3 t3 h4 t4 k4 h5 t5 h6 t6 h7 t7 k7 h8 t8 k8 n a b
theorem q_str {Q : Value → Shared → Prop} {a a' : Str} {t : Tok} {s : Shared} (h : Q (.str a t) s) (e : a' = a) : Q (.str a' t) s := e ▸ h
theorem isList_up {h h' : Heap} {l : Addr} {its : Array Value} (x : h.IsList l its) (k : ∀ b o, h.get? b = some o → h'.get? b = some o) : h'.IsList l its := let ⟨o, e, r⟩ := x; ⟨o, k _ _ e, r⟩
theorem news_tail {h₀ h : Heap} {L : Addr} {a : Addr × Obj} {Z : List (Addr × Obj)} (N : News h₀ L h (a :: Z)) : News h₀ L h Z := fun p hp => N p (List.mem_cons_of_mem _ hp)
theorem urn_b {z : Int} {n : Nat} (h : ¬ 63 < n) : 0 ≤ z.fmod 2147483563 + 97 * (n : Int) + 3 ∧ z.fmod 2147483563 + 97 * (n : Int) + 3 < 2147490000 := by
  have a := Int.fmod_nonneg_of_pos z (show (0 : Int) < 2147483563 by decide)
  have b := Int.fmod_lt_of_pos z (show (0 : Int) < 2147483563 by decide)
  omega
theorem pow_nn : (0 : Int) ≤ 10 ^ Int.toNat 18 := by decide
theorem each_cons {h : Heap} {k x : Str} {P : Value → Prop} {els : Prop} {d : KTD.Dat} {D : List (Str × KTD.Dat)} (h1 : k = x → KTD.Opened h P d) (h2 : k ≠ x → KTD.Each h k P els D) : KTD.Each h k P els ((x, d) :: D) := by
  unfold KTD.Each
  by_cases e : k = x
  · rw [if_pos (decide_eq_true e)]; exact h1 e
  · rw [if_neg (by simpa using e)]; exact h2 e
theorem each_nil {h : Heap} {k : Str} {P : Value → Prop} {els : Prop} (h1 : els) : KTD.Each h k P els [] := h1
theorem flats_two {vs : List Value} (h : KTD.Flats vs [PyData.int 1, PyData.int 2]) : ∃ t1 t2, vs = [.int 1 t1, .int 2 t2] := by
  rcases h with _ | ⟨g1, h⟩
  rcases h with _ | ⟨g2, h⟩
  cases h
  obtain ⟨t1, rfl⟩ := PyProof.V.Flat.int_inv g1
  obtain ⟨t2, rfl⟩ := PyProof.V.Flat.int_inv g2
  exact ⟨t1, t2, rfl⟩
theorem isTup_up {h h' : Heap} {l : Addr} {its : Array Value} (x : IsTup h l its) (k : ∀ b o, h.get? b = some o → h'.get? b = some o) : IsTup h' l its := let ⟨o, e, r⟩ := x; ⟨o, k _ _ e, r⟩
structure CompAt (Z : List (Addr × Obj)) (v : Value) (mdl : Str) (j : Nat) : Prop where
  ex : ∃ c dc h1 t1 k1 h2 t2 k2 h3 t3 k3 h4 t4 k4 n, v = .ref c ∧ (c, instObj 181 dc) ∈ Z ∧ (dc, dictOf [ent h1 "ident" t1 (.int ((j : Int) + 1) k1), ent h2 "across" t2 (.int 1 k2), ent h3 "down" t3 (.int 1 k3), ent h4 "quant" t4 (.int (slotOf mdl j) k4)] n) ∈ Z
theorem CompAt.mono {Z Z' : List (Addr × Obj)} {v : Value} {mdl : Str} {j : Nat} (h : CompAt Z v mdl j) (k : ∀ p ∈ Z, p ∈ Z') : CompAt Z' v mdl j := by
  obtain ⟨c, dc, h1, t1, k1, h2, t2, k2, h3, t3, k3, h4, t4, k4, n, e, a, b⟩ := h
  exact ⟨c, dc, h1, t1, k1, h2, t2, k2, h3, t3, k3, h4, t4, k4, n, e, k _ a, k _ b⟩
structure FrameAt (Z : List (Addr × Obj)) (fr : Addr) (kd : Str) (bits : Int) (wd hg many : Nat) (mdl : Str) (sd : Int) : Prop where
  ex : ∃ df h1 t1 k1 h2 t2 k2 h3 t3 k3 h4 t4 k4 h5 t5 h6 t6 k6 n cl ce, ∃ cvs : List Value, (fr, instObj 247 df) ∈ Z ∧
    (df, dictOf [ent h1 "kind" t1 (.str kd k1), ent h2 "precision" t2 (.int bits k2), ent h3 "height" t3 (.int hg k3), ent h4 "width" t4 (.int wd k4), ent h5 "components" t5 (.ref cl), ent h6 "n" t6 (.int sd k6)] n) ∈ Z ∧
    (cl, listOf cvs.toArray ce) ∈ Z ∧ cvs.length = many ∧ ∀ (j : Nat) (v : Value), cvs[j]? = some v → CompAt Z v mdl j
theorem FrameAt.elim {Z : List (Addr × Obj)} {fr : Addr} {kd : Str} {bits : Int} {wd hg many : Nat} {mdl : Str} {sd : Int} {P : Prop} (h : FrameAt Z fr kd bits wd hg many mdl sd) (k : ∀ df h1 t1 k1 h2 t2 k2 h3 t3 k3 h4 t4 k4 h5 t5 h6 t6 k6 n cl ce (cvs : List Value), (fr, instObj 247 df) ∈ Z →
    (df, dictOf [ent h1 "kind" t1 (.str kd k1), ent h2 "precision" t2 (.int bits k2), ent h3 "height" t3 (.int hg k3), ent h4 "width" t4 (.int wd k4), ent h5 "components" t5 (.ref cl), ent h6 "n" t6 (.int sd k6)] n) ∈ Z →
    (cl, listOf cvs.toArray ce) ∈ Z → cvs.length = many → (∀ (j : Nat) (v : Value), cvs[j]? = some v → CompAt Z v mdl j) → P) : P := by
  obtain ⟨df, h1, t1, k1, h2, t2, k2, h3, t3, k3, h4, t4, k4, h5, t5, h6, t6, k6, n, cl, ce, cvs, a, b, c, d, e⟩ := h
  exact k df h1 t1 k1 h2 t2 k2 h3 t3 k3 h4 t4 k4 h5 t5 h6 t6 k6 n cl ce cvs a b c d e
theorem bend0_two {h₀ : Heap} {R : List (Addr × Obj) → Value → Prop} {L ra c dc : Addr} {stored : List Str} {x : Str} {m₀ : Str → Option Value} {vs : List Value} {Y : List (Addr × Obj)} {oc od : Obj} {s₁ : Shared} {h' : Heap} {tk' : Nat} {m' : Str → Option Value} {v : Value} {e' : Nat}
    (F : Fr h₀ L h' m') (N : News h₀ L h' ((c, oc) :: (dc, od) :: (ra, listOf (vs.toArray.push v) e') :: Y)) (l1 : ra < dc ∧ AllLt dc Y) (l2 : dc < c) (ag : Agree stored x m' m₀) (r : R [(c, oc), (dc, od)] v) :
    BEnd0 h₀ L ra R stored x m₀ vs Y s₁ { s₁ with heap := h', toks := tk' } := by
  rw [List.push_toArray] at N
  have a1 : @LT.lt Nat _ ra dc := l1.1
  have a2 : @LT.lt Nat _ dc c := l2
  refine ⟨h', tk', m', v, e', [(c, oc), (dc, od)], rfl, F, ag, fun p hp => N p ?_, ?_, ?_, r⟩
  · simp only [List.mem_cons, List.mem_append, List.not_mem_nil, or_false] at hp ⊢
    rcases hp with h | h | h | h <;> simp [h]
  · intro p hp
    simp only [List.mem_cons, List.not_mem_nil, or_false] at hp
    rcases hp with rfl | rfl <;> (show @Ne Nat _ _; k_ne)
  · intro q hq p hp
    have l9 : @LT.lt Nat _ q.1 dc := ktn_ltOf l1.2 q hq
    simp only [List.mem_cons, List.not_mem_nil, or_false] at hp
    rcases hp with rfl | rfl <;> (show @Ne Nat _ _; k_ne)
theorem made3 {h₀ h : Heap} {L a b c : Addr} {oa ob oc : Obj} {news tl : List (Addr × Obj)} (N : News h₀ L h ((a, oa) :: (b, ob) :: (c, oc) :: (news ++ tl))) (l0 : ∀ p ∈ news, @LT.lt Nat _ p.1 c) (l1 : @LT.lt Nat _ c b) (l2 : @LT.lt Nat _ b a) (hb : Behind news tl) :
    News h₀ L h (news ++ ((a, oa) :: (b, ob) :: (c, oc) :: tl)) ∧ Behind news ((a, oa) :: (b, ob) :: (c, oc) :: tl) := by
  refine ⟨fun p hp => N p ?_, fun q hq p hp => ?_⟩
  · simp only [List.mem_append, List.mem_cons] at hp ⊢
    rcases hp with h | h | h | h | h <;> simp [h]
  · have lq := l0 q hq
    simp only [List.mem_cons] at hp
    rcases hp with rfl | rfl | rfl | hp
    · show @Ne Nat _ _; k_ne
    · show @Ne Nat _ _; k_ne
    · show @Ne Nat _ _; k_ne
    · exact hb q hq p hp
theorem made2 {h₀ h : Heap} {L a b : Addr} {oa ob : Obj} {news : List (Addr × Obj)} (N : News h₀ L h ((a, oa) :: (b, ob) :: news)) (l1 : ∀ p ∈ news, p.1 < b) (l2 : b < a) :
    News h₀ L h (news ++ [(a, oa), (b, ob)]) ∧ Behind news [(a, oa), (b, ob)] := by
  refine ⟨fun p hp => N p ?_, fun q hq p hp => ?_⟩
  · simp only [List.mem_append, List.mem_cons, List.not_mem_nil, or_false] at hp ⊢
    rcases hp with h | h | h <;> simp [h]
  · have lq : @LT.lt Nat _ q.1 b := l1 q hq
    have l2' : @LT.lt Nat _ b a := l2
    simp only [List.mem_cons, List.not_mem_nil, or_false] at hp
    rcases hp with rfl | rfl
    · show @Ne Nat _ _; k_ne
    · show @Ne Nat _ _; k_ne
end
section
theorem kwP50_1 : True := by
  w_top off
  k_with_none
  (k_with "andf" => (first | assumption | exact And.left (by assumption) | exact And.left (And.right (by assumption)) | exact And.left (And.right (And.right (by assumption))) | exact And.left (And.right (And.right (And.right (by assumption)))) | exact And.left (And.right (And.right (And.right (And.right (by assumption))))) | exact And.left (And.right (And.right (And.right (And.right (And.right (by assumption)))))) | exact And.left (And.right (And.right (And.right (And.right (And.right (And.right (by assumption))))))) | exact And.left (And.right (And.right (And.right (And.right (And.right (And.right (And.right (by assumption)))))))) | exact And.left (And.right (And.right (And.right (And.right (And.right (And.right (And.right (And.right (by assumption))))))))) | exact And.left (And.right (And.right (And.right (And.right (And.right (And.right (And.right (And.right (And.right (by assumption)))))))))) | exact And.left (And.right (And.right (And.right (And.right (And.right (And.right (And.right (And.right (And.right (And.right (by assumption))))))))))) | exact And.left (And.right (And.right (And.right (And.right (And.right (And.right (And.right (And.right (And.right (And.right (And.right (by assumption)))))))))))) | exact And.left (And.right (And.right (And.right (And.right (And.right (And.right (And.right (And.right (And.right (And.right (And.right (And.right (by assumption))))))))))))) | exact And.left (And.right (And.right (And.right (And.right (And.right (And.right (And.right (And.right (And.right (And.right (And.right (And.right (And.right (by assumption))))))))))))))))
  (k_with "k_ne" => ((refine neN ?_; (try dsimp only); first | assumption | exact fun kwe9 => absurd kwe9.symm (by assumption) | exact ne_up1 | exact up_ne1 | exact ne_up2 | exact up_ne2 | exact ne_up3 | exact up_ne3 | exact ne_up4 | exact up_ne4 | exact ne_up5 | exact up_ne5 | exact ne_up6 | exact up_ne6 | exact ne_up7 | exact up_ne7 | exact Nat.ne_of_gt (by k_extra "andf") | exact Nat.ne_of_lt (by k_extra "andf") | omega)))
  (k_with "ktr_rel" => (first | exact List.mem_cons_self | ktr_member | (refine List.mem_cons_of_mem _ ?_; ktr_rel) | (refine List.mem_append.mpr (Or.inl ?_); ktr_rel) | (refine List.mem_append.mpr (Or.inr ?_); ktr_rel)))
  trivial
theorem cell_eq {rows : List (List Int)} {wd hg : Nat} {py px : Int} (hy : 0 ≤ py) (hx : 0 ≤ px) : cellK rows wd hg px py = cellL rows wd hg py px := by
  unfold cellK cellL keptN minI
  have e : ∀ (p : Int) (n : Nat), 0 ≤ p → (if p < 0 then 0 else if p < (n : Int) then p else (n : Int) - 1) = (if p < (n : Int) - 1 then p else (n : Int) - 1) := by
    intro p n h
    rw [if_neg (by omega)]
    split <;> split <;> omega
  rw [e _ _ hy, e _ _ hx]
theorem mean_eq (rows : List (List Int)) (wd hg : Nat) (ac dn : Bool) (y x : Nat) : meanL rows wd hg ac dn y x = meanH rows wd hg ac dn y x := by
  unfold meanL meanH
  cases ac <;> cases dn <;> simp only [totL, totH, two, if_true, if_false, Bool.false_eq_true, Int.reduceMul]
  all_goals rw [Int.fdiv_eq_ediv_of_nonneg _ (by decide)]
  all_goals rw [Int.fdiv_eq_ediv_of_nonneg _ (by decide)]
  all_goals rw [Int.fdiv_eq_ediv_of_nonneg _ (by decide)]
  all_goals (repeat rw [cell_eq (by omega) (by omega)])
  all_goals omega
end
section
theorem kwP52_1 : True := by
  w_top off
  k_with_none
  (k_with "andf" => (first | assumption | exact And.left (by assumption) | exact And.left (And.right (by assumption)) | exact And.left (And.right (And.right (by assumption))) | exact And.left (And.right (And.right (And.right (by assumption)))) | exact And.left (And.right (And.right (And.right (And.right (by assumption))))) | exact And.left (And.right (And.right (And.right (And.right (And.right (by assumption)))))) | exact And.left (And.right (And.right (And.right (And.right (And.right (And.right (by assumption))))))) | exact And.left (And.right (And.right (And.right (And.right (And.right (And.right (And.right (by assumption)))))))) | exact And.left (And.right (And.right (And.right (And.right (And.right (And.right (And.right (And.right (by assumption))))))))) | exact And.left (And.right (And.right (And.right (And.right (And.right (And.right (And.right (And.right (And.right (by assumption)))))))))) | exact And.left (And.right (And.right (And.right (And.right (And.right (And.right (And.right (And.right (And.right (And.right (by assumption))))))))))) | exact And.left (And.right (And.right (And.right (And.right (And.right (And.right (And.right (And.right (And.right (And.right (And.right (by assumption)))))))))))) | exact And.left (And.right (And.right (And.right (And.right (And.right (And.right (And.right (And.right (And.right (And.right (And.right (And.right (by assumption))))))))))))) | exact And.left (And.right (And.right (And.right (And.right (And.right (And.right (And.right (And.right (And.right (And.right (And.right (And.right (And.right (by assumption))))))))))))))))
  (k_with "k_ne" => ((refine neN ?_; (try dsimp only); first | assumption | exact fun kwe9 => absurd kwe9.symm (by assumption) | exact ne_up1 | exact up_ne1 | exact ne_up2 | exact up_ne2 | exact ne_up3 | exact up_ne3 | exact ne_up4 | exact up_ne4 | exact ne_up5 | exact up_ne5 | exact ne_up6 | exact up_ne6 | exact ne_up7 | exact up_ne7 | exact Nat.ne_of_gt (by k_extra "andf") | exact Nat.ne_of_lt (by k_extra "andf") | omega)))
  (k_with "ktr_rel" => (first | exact List.mem_cons_self | ktr_member | (refine List.mem_cons_of_mem _ ?_; ktr_rel) | (refine List.mem_append.mpr (Or.inl ?_); ktr_rel) | (refine List.mem_append.mpr (Or.inr ?_); ktr_rel)))
  trivial
/-- a datum that may be compared: its strings well-made, no bytes, its depth -/
noncomputable def dOk : Nat → Dat → Bool
  | _, .none => true
  | _, .bool _ => true
  | _, .int _ => true
  | _, .str x => PyData.strOk x
  | n + 1, .tuple ds => ds.all (dOk n)
  | n + 1, .list ds => ds.all (dOk n)
  | _, _ => false
section
variable {h₀ h : Heap} {L : Addr} {news : List (Addr × Obj)}
mutual
theorem rd_in (N : News h₀ L h news) : ∀ {v : Value} {d : Dat} (n : Nat), DatIn news v d → dOk n d = true → ∃ as, Reads h v (kqdP d) as
  | _, _, _, .none, _ => ⟨_, Reads.none⟩
  | _, _, _, .bool b, _ => ⟨_, Reads.bool b⟩
  | _, _, _, .int i t, _ => ⟨_, Reads.int i t⟩
  | _, _, _, .str x t, _ => ⟨_, Reads.str x t⟩
  | _, _, n, .bytes _ _, k => by cases n <;> simp [dOk] at k
  | _, _, 0, .tuple _ _, k => by simp [dOk] at k
  | _, _, 0, .list _ _, k => by simp [dOk] at k
  | _, _, n + 1, .tuple hm r, k => by
    have ⟨as, q⟩ := rd_all N n r (by simpa [dOk] using k)
    exact ⟨as, by rw [kqdP]; exact reads_tuple_at (N.get hm) rfl rfl (by simpa using q)⟩
  | _, _, n + 1, .list hm r, k => by
    have ⟨as, q⟩ := rd_all N n r (by simpa [dOk] using k)
    exact ⟨_, by rw [kqdP]; exact reads_list_at (N.get hm) rfl rfl (by simpa [W.listOf] using q)⟩
theorem rd_all (N : News h₀ L h news) : ∀ {vs : List Value} {ds : List Dat} (n : Nat), DatAll news vs ds → (∀ d ∈ ds, dOk n d = true) → ∃ as, ReadsAll h vs (kqdPs ds) as
  | _, _, _, .nil, _ => ⟨_, ReadsAll.nil⟩
  | _, _, n, .cons hd r, k => by
    have ⟨as, q⟩ := rd_in N n hd (k _ (.head _))
    have ⟨bs, p⟩ := rd_all N n r fun d hm => k d (.tail _ hm)
    exact ⟨_, by rw [kqdPs]; exact ReadsAll.cons q p⟩
end
end
theorem dOk_lay : ∀ (n : Nat) (d : Dat), dOk n d = true → (kqdP d).canLay0 = true ∧ (kqdP d).depth ≤ n := by
  have all : ∀ (n : Nat), (∀ d, dOk n d = true → (kqdP d).canLay0 = true ∧ (kqdP d).depth ≤ n) → ∀ ds : List Dat, (∀ d ∈ ds, dOk n d = true) → PyData.canLayAll0 (kqdPs ds) = true ∧ PyData.depthAll (kqdPs ds) ≤ n := by
    intro n ih ds h
    induction ds with
    | nil => exact ⟨rfl, Nat.zero_le _⟩
    | cons d ds hi =>
      obtain ⟨a1, a2⟩ := ih d (h d (.head _))
      obtain ⟨b1, b2⟩ := hi fun e he => h e (.tail _ he)
      refine ⟨by rw [kqdPs, PyData.canLayAll0, a1, b1]; rfl, ?_⟩
      rw [kqdPs, PyData.depthAll]
      omega
  intro n
  induction n with
  | zero =>
    intro d h
    cases d <;> simp_all [dOk, kqdP, PyData.canLay0, PyData.depth]
  | succ n ih =>
    intro d h
    cases d with
    | tuple ds =>
      obtain ⟨a1, a2⟩ := all n ih ds (by simpa [dOk] using h)
      refine ⟨by rw [kqdP, PyData.canLay0]; exact a1, ?_⟩
      rw [kqdP, PyData.depth]
      omega
    | list ds =>
      obtain ⟨a1, a2⟩ := all n ih ds (by simpa [dOk] using h)
      refine ⟨by rw [kqdP, PyData.canLay0]; exact a1, ?_⟩
      rw [kqdP, PyData.depth]
      omega
    | _ => simp_all [dOk, kqdP, PyData.canLay0, PyData.depth]
section
variable {prog : Program} {w : World} {A : Around} {E : Value → Shared → Prop} {s : Shared} {h₀ : Heap} {L : Addr} {news : List (Addr × Obj)} {Q : Value → Shared → Prop} {a b : Value} {d : Dat}
theorem shaped_dOk (ok : dOk 9 d = true) : SeqAt.shaped (kqdP d) = true := by
  obtain ⟨l1, l2⟩ := dOk_lay 9 d ok
  unfold SeqAt.shaped
  rw [l1, Bool.true_and]
  exact decide_eq_true (Nat.le_trans l2 (by decide))
/-- a and b bear the same datum -/
theorem ne_same (N : News h₀ L s.heap news) (Da : DatIn news a d) (Db : DatIn news b d) (ok : dOk 9 d = true) (hu : A.units + 64 < cLine) (h : Q (.bool false) s) : wpAny (model prog w) A (compareOp .NotEq a b) Q E s := by
  obtain ⟨as, ra⟩ := rd_in N 9 Da ok
  obtain ⟨bs, rb⟩ := rd_in N 9 Db ok
  refine ne_dataH ra rb (shaped_dOk ok) (shaped_dOk ok) hu ?_
  rw [SeqAt.eqv_refl _ (dOk_lay 9 d ok).1]
  exact h
theorem eq_same (N : News h₀ L s.heap news) (Da : DatIn news a d) (Db : DatIn news b d) (ok : dOk 9 d = true) (hu : A.units + 64 < cLine) (h : Q (.bool true) s) : wpAny (model prog w) A (compareOp .Eq a b) Q E s := by
  obtain ⟨as, ra⟩ := rd_in N 9 Da ok
  obtain ⟨bs, rb⟩ := rd_in N 9 Db ok
  refine eq_dataH ra rb (shaped_dOk ok) (shaped_dOk ok) hu ?_
  rw [SeqAt.eqv_refl _ (dOk_lay 9 d ok).1]
  exact h
end
end
section
section
open PyProof.Rows
variable {prog : Program} {w : World} {A : Around} {E : Value → Shared → Prop} {s : Shared} {env : Env} {h₀ : Heap} {x : Str} {px : Pos} {body : List Stmt} {Q : Flow → Shared → Prop}
theorem kwP53_1 : True := by
  w_top off
  k_with_none
  (k_with "andf" => (first | assumption | exact And.left (by assumption) | exact And.left (And.right (by assumption)) | exact And.left (And.right (And.right (by assumption))) | exact And.left (And.right (And.right (And.right (by assumption)))) | exact And.left (And.right (And.right (And.right (And.right (by assumption))))) | exact And.left (And.right (And.right (And.right (And.right (And.right (by assumption)))))) | exact And.left (And.right (And.right (And.right (And.right (And.right (And.right (by assumption))))))) | exact And.left (And.right (And.right (And.right (And.right (And.right (And.right (And.right (by assumption)))))))) | exact And.left (And.right (And.right (And.right (And.right (And.right (And.right (And.right (And.right (by assumption))))))))) | exact And.left (And.right (And.right (And.right (And.right (And.right (And.right (And.right (And.right (And.right (by assumption)))))))))) | exact And.left (And.right (And.right (And.right (And.right (And.right (And.right (And.right (And.right (And.right (And.right (by assumption))))))))))) | exact And.left (And.right (And.right (And.right (And.right (And.right (And.right (And.right (And.right (And.right (And.right (And.right (by assumption)))))))))))) | exact And.left (And.right (And.right (And.right (And.right (And.right (And.right (And.right (And.right (And.right (And.right (And.right (And.right (by assumption))))))))))))) | exact And.left (And.right (And.right (And.right (And.right (And.right (And.right (And.right (And.right (And.right (And.right (And.right (And.right (And.right (by assumption))))))))))))))))
  (k_with "k_ne" => ((refine neN ?_; (try dsimp only); first | assumption | exact fun kwe9 => absurd kwe9.symm (by assumption) | exact ne_up1 | exact up_ne1 | exact ne_up2 | exact up_ne2 | exact ne_up3 | exact up_ne3 | exact ne_up4 | exact up_ne4 | exact ne_up5 | exact up_ne5 | exact ne_up6 | exact up_ne6 | exact ne_up7 | exact up_ne7 | exact Nat.ne_of_gt (by k_extra "andf") | exact Nat.ne_of_lt (by k_extra "andf") | omega)))
  (k_with "ktr_rel" => (first | exact List.mem_cons_self | ktr_member | (refine List.mem_cons_of_mem _ ?_; ktr_rel) | (refine List.mem_append.mpr (Or.inl ?_); ktr_rel) | (refine List.mem_append.mpr (Or.inr ?_); ktr_rel)))
  trivial
def TEnd (h₀ : Heap) (L I : Addr) (oI : Obj) (G' : (Str → Option Value) → List (Addr × Obj) → Prop) (s s₂ : Shared) : Prop :=
  ∃ h' tk' m' nx', s₂ = { s with heap := h', toks := tk' } ∧ Fr h₀ L h' m' ∧ News h₀ L h' ((I, oI) :: nx') ∧ (∀ p ∈ nx', @Ne Nat p.1 I) ∧ G' m' nx'
def TPost (h₀ : Heap) (L I : Addr) (oI : Obj) (G' : (Str → Option Value) → List (Addr × Obj) → Prop) (Q : Flow → Shared → Prop) (s : Shared) (f : Flow) (s₂ : Shared) : Prop :=
  match f with
  | .ret v => Q (.ret v) s₂
  | .brk => Q .next s₂
  | _ => TEnd h₀ L I oI G' s s₂
/-- a loop by its invariant, its target a name of any kind -/
theorem any_loop {I : Addr} {oI₀ : Obj} {n : Nat} {P : Nat → Value → Prop} {St : Nat → Heap → Prop} {m₀ : Str → Option Value} {nx₀ keep : List (Addr × Obj)} (G : Nat → (Str → Option Value) → List (Addr × Obj) → Prop)
    (W : Walks prog w A I (I :: keep.map (·.1)) [I] n P St) (hk : ∀ i m nx, G i m nx → ∀ q ∈ keep, q ∈ nx) (hst : St 0 s.heap) (hob : ∀ i h, St i h → ∃ o, h.get? I = some o)
    (F : Fr h₀ env.locals s.heap m₀) (N : News h₀ env.locals s.heap ((I, oI₀) :: nx₀)) (hI : ∀ p ∈ nx₀, @Ne Nat p.1 I) (g0 : G 0 m₀ nx₀)
    (turn : ∀ (i : Nat) (v : Value) (m₁ : Str → Option Value) (nx : List (Addr × Obj)) (h : Heap) (tk : Nat) (oI : Obj), i < n → P i v → G i m₁ nx → (∀ p ∈ nx, @Ne Nat p.1 I) → Fr h₀ env.locals h m₁ → News h₀ env.locals h ((I, oI) :: nx) →
      wpAny (model prog w) A (assign (.Name x px) env v) (fun _ s₃ => wpAny (model prog w) A (execs body env) (TPost h₀ env.locals I oI (G (i + 1)) Q { s with heap := h, toks := tk }) E s₃) E { s with heap := h, toks := tk })
    (done : ∀ (m₁ : Str → Option Value) (nx : List (Addr × Obj)) (h : Heap) (tk : Nat), G n m₁ nx → Fr h₀ env.locals h m₁ → News h₀ env.locals h nx → Q .next { s with heap := h, toks := tk }) :
    TurnsAt prog w A h₀ env (.Name x px) body Q E (.ref I) s := by
  have nI := N _ List.mem_cons_self
  have nk : ∀ q ∈ keep, q ∈ nx₀ := hk 0 m₀ nx₀ g0
  have cases' : ∀ p : Addr × Obj, p.1 ∈ I :: keep.map (·.1) → p.1 = I ∨ ∃ q ∈ keep, q.1 = p.1 := fun p hp => by
    rcases List.mem_cons.mp hp with e | hp
    · exact .inl e
    · obtain ⟨q, hq, e⟩ := List.mem_map.mp hp
      exact .inr ⟨q, hq, e⟩
  refine ⟨I, I :: keep.map (·.1), [I], n, _, _, St, m₀, nx₀, G, rfl, KTurns.ofWalks W fun i v s Q E st q => wpAny_pure q, ?_, ?_, ?_, hst, F, fun p hp => N p (List.mem_cons_of_mem _ hp), g0, ?_, ?_⟩
  · intro hL
    rcases List.mem_cons.mp hL with e | hL
    · exact nI.2.1 e.symm
    · obtain ⟨q, hq, e⟩ := List.mem_map.mp hL
      exact (N q (List.mem_cons_of_mem _ (nk q hq))).2.1 e
  · intro b hb
    rw [List.mem_singleton.mp hb]
    exact nI.2.2
  · intro p hp e
    exact hI p hp (List.mem_singleton.mp e)
  · rintro i v m₁ nx h tk own hi hP g hw ho1 ho2 ho3 hSt F₁ N₁
    obtain ⟨oI, eI⟩ := hob _ _ hSt
    have hIown : (I, oI) ∈ own := ho3 I List.mem_cons_self nI.2.2 oI eI
    have hI' : ∀ p ∈ nx, @Ne Nat p.1 I := fun p hp e => hw p hp (by simpa using e)
    have N₂ : News h₀ env.locals h ((I, oI) :: nx) := fun p hp => by
      rcases List.mem_cons.mp hp with rfl | hp
      · exact N₁ _ (List.mem_append_left _ hIown)
      · exact N₁ _ (List.mem_append_right _ hp)
    refine wpAny_mono (turn i v m₁ nx h tk oI hi hP g hI' F₁ N₂) (fun _ s₃ h₃ => wpAny_mono h₃ (fun f s₂ q => ?_) fun _ _ e => e) fun _ _ e => e
    have fin : TEnd h₀ env.locals I oI (G (i + 1)) { s with heap := h, toks := tk } s₂ → LoopStepU h₀ env.locals [I] own (G (i + 1)) { s with heap := h, toks := tk } .next s₂ := by
      rintro ⟨h', tk', m', nx', rfl, F', N', hI2, g'⟩
      refine LoopStepU.intro (news₂ := nx') F' (fun p hp => ?_) (fun p hp e => hI2 p hp (List.mem_singleton.mp e)) g'
      rcases List.mem_append.mp hp with hp | hp
      · have e := ho2 p hp
        rcases cases' p (ho1 p hp) with e2 | ⟨q, hq, e2⟩
        · have : p = (I, oI) := by
            rw [e2, eI] at e
            exact Prod.ext e2 (Option.some.inj e).symm
          rw [this]
          exact N' _ List.mem_cons_self
        · have zq := (N₂ q (List.mem_cons_of_mem _ (hk _ _ _ g q hq))).1
          have : p = q := by
            rw [← e2] at e
            exact Prod.ext e2.symm (Option.some.inj (e.symm.trans zq))
          rw [this]
          exact N' _ (List.mem_cons_of_mem _ (hk _ _ _ g' q hq))
      · exact N' _ (List.mem_cons_of_mem _ hp)
    cases f with
    | ret v => exact q
    | brk => exact q
    | next => exact fin q
    | cont => exact fin q
  · rintro h' tk m' nx F' N' _ g
    exact done m' nx h' tk g F' N'
/-- for x in range(..), x a name of any kind -/
theorem range_T {r : Addr} {a b c : Int} {t₀ u₀ v₀ : Tok} {n : Nat} {m₀ : Str → Option Value} {nx₀ : List (Addr × Obj)} (G : Nat → (Str → Option Value) → List (Addr × Obj) → Prop)
    (hh : A.handled = none) (hr : IsRange s.heap r a b c t₀ u₀ v₀) (hsmall : Builtin.Range.small a b c = true) (hsz : Builtin.Range.rangeSize a b c = (n : Int)) (F : Fr h₀ env.locals s.heap m₀) (N : News h₀ env.locals s.heap nx₀) (g0 : G 0 m₀ nx₀)
    (turn : ∀ (i : Nat) (t : Tok) (m₁ : Str → Option Value) (nx : List (Addr × Obj)) (h : Heap) (tk : Nat) (I : Addr) (oI : Obj), i < n → G i m₁ nx → (∀ p ∈ nx, @Ne Nat p.1 I) → Fr h₀ env.locals h m₁ → News h₀ env.locals h ((I, oI) :: nx) →
      wpAny (model prog w) A (assign (.Name x px) env (.int (a + i * c) t)) (fun _ s₃ => wpAny (model prog w) A (execs body env) (TPost h₀ env.locals I oI (G (i + 1)) Q { s with heap := h, toks := tk }) E s₃) E { s with heap := h, toks := tk })
    (done : ∀ (m₁ : Str → Option Value) (nx : List (Addr × Obj)) (h : Heap) (tk : Nat), G n m₁ nx → Fr h₀ env.locals h m₁ → News h₀ env.locals h nx → Q .next { s with heap := h, toks := tk }) :
    wpAny (model prog w) A (pyIter (.ref r)) (fun it s₂ => TurnsAt prog w A h₀ env (.Name x px) body Q E it s₂) E s := by
  refine wpAny_pyIter_range hr hsmall ?_
  have N1 := N.push F { cls := .type "range_iterator", data := .fields #[rawInt a, rawInt (Builtin.Range.rangeSize a b c), rawInt c] }
  refine any_loop (keep := []) (P := fun i v => ∃ t, v = .int (a + i * c) t) G (Walks.range hh _ a c n) (fun _ _ _ _ _ h => nomatch h) ?_ (fun i h st => ⟨_, st⟩) (F.push _) N1 (fun p hp => Nat.ne_of_lt (Heap.lt_size (N p hp).1)) g0 ?_ done
  · show IsRangeIter _ _ _ _ _
    rw [hsz]
    simpa using Heap.get?_push_size _ rfl
  · rintro i v m₁ nx h tk oI hi ⟨t, rfl⟩ g hI F₁ N₁
    exact turn i t m₁ nx h tk _ oI hi g hI F₁ N₁
/-- for x in a list of the ledger, x a name of any kind -/
theorem list_T {l : Addr} {vs : List Value} {e : Nat} {m₀ : Str → Option Value} {nx₀ : List (Addr × Obj)} (G : Nat → (Str → Option Value) → List (Addr × Obj) → Prop)
    (hh : A.handled = none) (hk : ∀ i m nx, G i m nx → (l, W.listOf vs.toArray e) ∈ nx) (F : Fr h₀ env.locals s.heap m₀) (N : News h₀ env.locals s.heap nx₀) (g0 : G 0 m₀ nx₀)
    (turn : ∀ (i : Nat) (v : Value) (m₁ : Str → Option Value) (nx : List (Addr × Obj)) (h : Heap) (tk : Nat) (I : Addr) (oI : Obj), vs[i]? = some v → G i m₁ nx → (∀ p ∈ nx, @Ne Nat p.1 I) → Fr h₀ env.locals h m₁ → News h₀ env.locals h ((I, oI) :: nx) →
      wpAny (model prog w) A (assign (.Name x px) env v) (fun _ s₃ => wpAny (model prog w) A (execs body env) (TPost h₀ env.locals I oI (G (i + 1)) Q { s with heap := h, toks := tk }) E s₃) E { s with heap := h, toks := tk })
    (done : ∀ (m₁ : Str → Option Value) (nx : List (Addr × Obj)) (h : Heap) (tk : Nat), G vs.length m₁ nx → Fr h₀ env.locals h m₁ → News h₀ env.locals h nx → Q .next { s with heap := h, toks := tk }) :
    wpAny (model prog w) A (pyIter (.ref l)) (fun it s₂ => TurnsAt prog w A h₀ env (.Name x px) body Q E it s₂) E s := by
  have nl := N _ (hk _ _ _ g0)
  have hl : s.heap.IsList l vs.toArray := ⟨_, nl.1, rfl, e, rfl⟩
  refine wpAny_pyIter_list hl ?_
  have N1 := N.push F { cls := .type "list_iterator", data := .fields #[.ref l, .int 0 0] }
  have Wk := Walks.list (prog := prog) (w := w) hh s.heap.objs.size l (Nat.ne_of_lt (Heap.lt_size nl.1)) vs.toArray
  rw [List.size_toArray] at Wk
  refine any_loop (keep := [(l, W.listOf vs.toArray e)]) (P := fun i v => vs.toArray[i]? = some v) G Wk (fun i m nx g q hq => by rw [List.mem_singleton.mp hq]; exact hk i m nx g) ?_ (fun i h st => ?_) (F.push _) N1 (fun p hp => Nat.ne_of_lt (Heap.lt_size (N p hp).1)) g0 ?_ done
  · exact ⟨⟨_, Heap.get?_push_size _ rfl, rfl, rfl⟩, ⟨_, Heap.get?_push_of_some _ nl.1, rfl, e, rfl⟩⟩
  · obtain ⟨o, e, _⟩ := st.1
    exact ⟨o, e⟩
  · intro i v m₁ nx h tk oI hi hv g hI F₁ N₁
    exact turn i v m₁ nx h tk _ oI (by simpa using hv) g hI F₁ N₁
end
end
section
section
variable {w : World} {p : Program} {loose : List Str} {mean : ExcName → Option Value} {mg mb : Str → Option Value} {dp un : Nat} {gd : Option (List Code)} {cn : Str} {cs : Scope} {a : Addr} {ccd : Value} {cl : List (Str × Addr)} {outer : List Env} {A₀ : Around} {base h₀ : Heap} {L : Addr} {m : Str → Option Value} {news : List (Addr × Obj)} {s : Shared} {Q E : Value → Shared → Prop}
section
theorem kwC41_1 : True := by
  w_top off
  k_with_none
  (k_with "andf" => (first | assumption | exact And.left (by assumption) | exact And.left (And.right (by assumption)) | exact And.left (And.right (And.right (by assumption))) | exact And.left (And.right (And.right (And.right (by assumption)))) | exact And.left (And.right (And.right (And.right (And.right (by assumption))))) | exact And.left (And.right (And.right (And.right (And.right (And.right (by assumption)))))) | exact And.left (And.right (And.right (And.right (And.right (And.right (And.right (by assumption))))))) | exact And.left (And.right (And.right (And.right (And.right (And.right (And.right (And.right (by assumption)))))))) | exact And.left (And.right (And.right (And.right (And.right (And.right (And.right (And.right (And.right (by assumption))))))))) | exact And.left (And.right (And.right (And.right (And.right (And.right (And.right (And.right (And.right (And.right (by assumption)))))))))) | exact And.left (And.right (And.right (And.right (And.right (And.right (And.right (And.right (And.right (And.right (And.right (by assumption))))))))))) | exact And.left (And.right (And.right (And.right (And.right (And.right (And.right (And.right (And.right (And.right (And.right (And.right (by assumption)))))))))))) | exact And.left (And.right (And.right (And.right (And.right (And.right (And.right (And.right (And.right (And.right (And.right (And.right (And.right (by assumption))))))))))))) | exact And.left (And.right (And.right (And.right (And.right (And.right (And.right (And.right (And.right (And.right (And.right (And.right (And.right (And.right (by assumption))))))))))))))))
  (k_with "k_ne" => ((refine neN ?_; (try dsimp only); first | assumption | exact fun kwe9 => absurd kwe9.symm (by assumption) | exact ne_up1 | exact up_ne1 | exact ne_up2 | exact up_ne2 | exact ne_up3 | exact up_ne3 | exact ne_up4 | exact up_ne4 | exact ne_up5 | exact up_ne5 | exact ne_up6 | exact up_ne6 | exact ne_up7 | exact up_ne7 | exact Nat.ne_of_gt (by k_extra "andf") | exact Nat.ne_of_lt (by k_extra "andf") | omega)))
  (k_with "ktr_rel" => (first | exact List.mem_cons_self | ktr_member | (refine List.mem_cons_of_mem _ ?_; ktr_rel) | (refine List.mem_append.mpr (Or.inl ?_); ktr_rel) | (refine List.mem_append.mpr (Or.inr ?_); ktr_rel)))
  (k_with "size_fits" => (((simp only [List.size_toArray, PySem.sizeLine_eq]); omega)))
  (k_with "exec For Name Call cons nil" => (((rename Fr _ _ _ _ => kwlF); (with_unfolding_all refine' For_turns kwlF ?_); k_whole)))
  (k_with "pyIter ref" => (((with_reducible show wpAny _ _ (pyIter (Value.ref _)) (fun it s₂ => TurnsAt _ _ _ _ _ _ _ _ _ it s₂) _ _); refine stop_in ?_)))
  (k_with "call builtin:len" => (((with_reducible show wpAny _ _ (call (Value.builtin "len") [Value.ref _]) _ _ _); k_dflt (refine len_led (by k_asm) (by k_mem) (by assumption) (by omega) ?_; k_whole))))
  (k_with "subscriptTail" => ((k_dflt (refine item_rows (by k_asm) (by k_mem) (by assumption) (by assumption) (by (split <;> omega)) (by (split <;> omega)) (by omega) ?_ ?_); (intro kwai kwus kwei kwhmi kwhii kwhli kwhlg); (try dsimp only))))
  trivial
def twoN (b : Bool) : Nat := if b then 2 else 1
noncomputable def sumTo (f : Nat → Int) : Nat → Int
  | 0 => 0
  | n + 1 => sumTo f n + f n
abbrev mMean (vr : Value) (xx yy wv hv : Int) (tx ty ta td : Tok) (tot : Int) (tt : Tok) (u : Str → Option Value) : Str → Option Value := fun z => if z = ("total" : Str) then some (.int tot tt) else if z = ("rows" : Str) then some vr else if z = ("x" : Str) then some (.int xx tx) else if z = ("y" : Str) then some (.int yy ty) else if z = ("wide" : Str) then some (.int wv ta) else if z = ("high" : Str) then some (.int hv td) else u z
theorem mmean_eq {vr : Value} {xx yy wv hv tot : Int} {tx ty ta td tt : Tok} {m : Str → Option Value} (h1 : m ("total" : Str) = some (.int tot tt)) (h2 : m ("rows" : Str) = some vr) (h3 : m ("x" : Str) = some (.int xx tx)) (h4 : m ("y" : Str) = some (.int yy ty)) (h5 : m ("wide" : Str) = some (.int wv ta)) (h6 : m ("high" : Str) = some (.int hv td)) : m = mMean vr xx yy wv hv tx ty ta td tot tt m := by
  funext z
  by_cases z1 : z = ("total" : Str)
  · rw [mMean, if_pos z1, z1, h1]
  · by_cases z2 : z = ("rows" : Str)
    · rw [mMean, if_neg z1, if_pos z2, z2, h2]
    · by_cases z3 : z = ("x" : Str)
      · rw [mMean, if_neg z1, if_neg z2, if_pos z3, z3, h3]
      · by_cases z4 : z = ("y" : Str)
        · rw [mMean, if_neg z1, if_neg z2, if_neg z3, if_pos z4, z4, h4]
        · by_cases z5 : z = ("wide" : Str)
          · rw [mMean, if_neg z1, if_neg z2, if_neg z3, if_neg z4, if_pos z5, z5, h5]
          · by_cases z6 : z = ("high" : Str)
            · rw [mMean, if_neg z1, if_neg z2, if_neg z3, if_neg z4, if_neg z5, if_pos z6, z6, h6]
            · rw [mMean, if_neg z1, if_neg z2, if_neg z3, if_neg z4, if_neg z5, if_neg z6]
def GM (vr : Value) (xx yy wv hv : Int) (tx ty ta td : Tok) (c : Nat → Int) (news : List (Addr × Obj)) (i : Nat) (m : Str → Option Value) (nx : List (Addr × Obj)) : Prop := nx = news ∧ ∃ tt u, m = mMean vr xx yy wv hv tx ty ta td (sumTo c i) tt u
def GN (lv vr : Value) (xx yy wv hv : Int) (tx ty ta td : Tok) (c0 : Int) (c : Nat → Int) (news : List (Addr × Obj)) (i : Nat) (m : Str → Option Value) (nx : List (Addr × Obj)) : Prop := nx = news ∧ ∃ tot tt u, tot = c0 + sumTo c i ∧ m = (fun z => if z = ("line" : Str) then some lv else mMean vr xx yy wv hv tx ty ta td tot tt u z)
theorem gn_eq {lv vr : Value} {xx yy wv hv tot : Int} {tx ty ta td tt : Tok} {m : Str → Option Value} (h0 : m ("line" : Str) = some lv) (h1 : m ("total" : Str) = some (.int tot tt)) (h2 : m ("rows" : Str) = some vr) (h3 : m ("x" : Str) = some (.int xx tx)) (h4 : m ("y" : Str) = some (.int yy ty)) (h5 : m ("wide" : Str) = some (.int wv ta)) (h6 : m ("high" : Str) = some (.int hv td)) :
    m = (fun z => if z = ("line" : Str) then some lv else mMean vr xx yy wv hv tx ty ta td tot tt m z) := by
  have e := mmean_eq h1 h2 h3 h4 h5 h6
  funext z
  by_cases z0 : z = ("line" : Str)
  · rw [if_pos z0, z0, h0]
  · rw [if_neg z0]; exact congrFun e z
theorem two_b (b : Bool) : 0 ≤ two b ∧ two b < 3 := by cases b <;> decide
theorem mulOk_two {a : Int} {b : Bool} : IntMulOk a (two b) := PySem.IntMulOk.of_right (PySem.intBits_le_64 (by have := two_b b; omega) (by have := two_b b; omega))
theorem two_mulOk {a : Int} {b : Bool} : IntMulOk (two b) a := PySem.IntMulOk.of_left (PySem.intBits_le_64 (by have := two_b b; omega) (by have := two_b b; omega))
theorem kwC41_2 : True := by
  w_top off
  k_with_none
  (k_with "andf" => (first | assumption | exact And.left (by assumption) | exact And.left (And.right (by assumption)) | exact And.left (And.right (And.right (by assumption))) | exact And.left (And.right (And.right (And.right (by assumption)))) | exact And.left (And.right (And.right (And.right (And.right (by assumption))))) | exact And.left (And.right (And.right (And.right (And.right (And.right (by assumption)))))) | exact And.left (And.right (And.right (And.right (And.right (And.right (And.right (by assumption))))))) | exact And.left (And.right (And.right (And.right (And.right (And.right (And.right (And.right (by assumption)))))))) | exact And.left (And.right (And.right (And.right (And.right (And.right (And.right (And.right (And.right (by assumption))))))))) | exact And.left (And.right (And.right (And.right (And.right (And.right (And.right (And.right (And.right (And.right (by assumption)))))))))) | exact And.left (And.right (And.right (And.right (And.right (And.right (And.right (And.right (And.right (And.right (And.right (by assumption))))))))))) | exact And.left (And.right (And.right (And.right (And.right (And.right (And.right (And.right (And.right (And.right (And.right (And.right (by assumption)))))))))))) | exact And.left (And.right (And.right (And.right (And.right (And.right (And.right (And.right (And.right (And.right (And.right (And.right (And.right (by assumption))))))))))))) | exact And.left (And.right (And.right (And.right (And.right (And.right (And.right (And.right (And.right (And.right (And.right (And.right (And.right (And.right (by assumption))))))))))))))))
  (k_with "k_ne" => ((refine neN ?_; (try dsimp only); first | assumption | exact fun kwe9 => absurd kwe9.symm (by assumption) | exact ne_up1 | exact up_ne1 | exact ne_up2 | exact up_ne2 | exact ne_up3 | exact up_ne3 | exact ne_up4 | exact up_ne4 | exact ne_up5 | exact up_ne5 | exact ne_up6 | exact up_ne6 | exact ne_up7 | exact up_ne7 | exact Nat.ne_of_gt (by k_extra "andf") | exact Nat.ne_of_lt (by k_extra "andf") | omega)))
  (k_with "ktr_rel" => (first | exact List.mem_cons_self | ktr_member | (refine List.mem_cons_of_mem _ ?_; ktr_rel) | (refine List.mem_append.mpr (Or.inl ?_); ktr_rel) | (refine List.mem_append.mpr (Or.inr ?_); ktr_rel)))
  (k_with "size_fits" => (((simp only [List.size_toArray, PySem.sizeLine_eq]); omega)))
  (k_with "exec For Name Call cons nil" => (((rename Fr _ _ _ _ => kwlF); (with_unfolding_all refine' For_turns kwlF ?_); k_whole)))
  (k_with "pyIter ref" => (((with_reducible show wpAny _ _ (pyIter (Value.ref _)) (fun it s₂ => TurnsAt _ _ _ _ _ _ _ _ _ it s₂) _ _); refine stop_in ?_)))
  (k_with "call builtin:len" => (((with_reducible show wpAny _ _ (call (Value.builtin "len") [Value.ref _]) _ _ _); k_dflt (refine len_led (by k_asm) (by k_mem) (by assumption) (by omega) ?_; k_whole))))
  (k_with "subscriptTail" => ((k_dflt (refine item_rows (by k_asm) (by k_mem) (by assumption) (by assumption) (by (split <;> omega)) (by (split <;> omega)) (by omega) ?_ ?_); (intro kwai kwus kwei kwhmi kwhii kwhli kwhlg); (try dsimp only))))
  (k_with "mul_fits" => (first | exact mulOk_two | exact two_mulOk))
  trivial
theorem div2_ne {a b : Bool} : 2 * two a * two b ≠ 0 := by cases a <;> cases b <;> decide
theorem div2_log {a b : Bool} : (2 * two a * two b).natAbs.log2 < 9000 := by cases a <;> cases b <;> decide
theorem kwC41_3 : True := by
  w_top off
  k_with_none
  (k_with "andf" => (first | assumption | exact And.left (by assumption) | exact And.left (And.right (by assumption)) | exact And.left (And.right (And.right (by assumption))) | exact And.left (And.right (And.right (And.right (by assumption)))) | exact And.left (And.right (And.right (And.right (And.right (by assumption))))) | exact And.left (And.right (And.right (And.right (And.right (And.right (by assumption)))))) | exact And.left (And.right (And.right (And.right (And.right (And.right (And.right (by assumption))))))) | exact And.left (And.right (And.right (And.right (And.right (And.right (And.right (And.right (by assumption)))))))) | exact And.left (And.right (And.right (And.right (And.right (And.right (And.right (And.right (And.right (by assumption))))))))) | exact And.left (And.right (And.right (And.right (And.right (And.right (And.right (And.right (And.right (And.right (by assumption)))))))))) | exact And.left (And.right (And.right (And.right (And.right (And.right (And.right (And.right (And.right (And.right (And.right (by assumption))))))))))) | exact And.left (And.right (And.right (And.right (And.right (And.right (And.right (And.right (And.right (And.right (And.right (And.right (by assumption)))))))))))) | exact And.left (And.right (And.right (And.right (And.right (And.right (And.right (And.right (And.right (And.right (And.right (And.right (And.right (by assumption))))))))))))) | exact And.left (And.right (And.right (And.right (And.right (And.right (And.right (And.right (And.right (And.right (And.right (And.right (And.right (And.right (by assumption))))))))))))))))
  (k_with "k_ne" => ((refine neN ?_; (try dsimp only); first | assumption | exact fun kwe9 => absurd kwe9.symm (by assumption) | exact ne_up1 | exact up_ne1 | exact ne_up2 | exact up_ne2 | exact ne_up3 | exact up_ne3 | exact ne_up4 | exact up_ne4 | exact ne_up5 | exact up_ne5 | exact ne_up6 | exact up_ne6 | exact ne_up7 | exact up_ne7 | exact Nat.ne_of_gt (by k_extra "andf") | exact Nat.ne_of_lt (by k_extra "andf") | omega)))
  (k_with "ktr_rel" => (first | exact List.mem_cons_self | ktr_member | (refine List.mem_cons_of_mem _ ?_; ktr_rel) | (refine List.mem_append.mpr (Or.inl ?_); ktr_rel) | (refine List.mem_append.mpr (Or.inr ?_); ktr_rel)))
  (k_with "size_fits" => (((simp only [List.size_toArray, PySem.sizeLine_eq]); omega)))
  (k_with "exec For Name Call cons nil" => (((rename Fr _ _ _ _ => kwlF); (with_unfolding_all refine' For_turns kwlF ?_); k_whole)))
  (k_with "pyIter ref" => (((with_reducible show wpAny _ _ (pyIter (Value.ref _)) (fun it s₂ => TurnsAt _ _ _ _ _ _ _ _ _ it s₂) _ _); refine stop_in ?_)))
  (k_with "call builtin:len" => (((with_reducible show wpAny _ _ (call (Value.builtin "len") [Value.ref _]) _ _ _); k_dflt (refine len_led (by k_asm) (by k_mem) (by assumption) (by omega) ?_; k_whole))))
  (k_with "subscriptTail" => ((k_dflt (refine item_rows (by k_asm) (by k_mem) (by assumption) (by assumption) (by (split <;> omega)) (by (split <;> omega)) (by omega) ?_ ?_); (intro kwai kwus kwei kwhmi kwhii kwhli kwhlg); (try dsimp only))))
  (k_with "mul_fits" => (first | exact mulOk_two | exact two_mulOk))
  (k_with "binaryOp FloorDiv int int" => ((k_dflt (refine floordiv_int div2_ne ?_ (Or.inl (PyProof.noPylong_of_log2 div2_log))))))
  trivial
theorem two_small (b : Bool) : Builtin.Range.small 0 (two b) 1 = true := by cases b <;> rfl
theorem two_size (b : Bool) : Builtin.Range.rangeSize 0 (two b) 1 = ((twoN b : Nat) : Int) := by cases b <;> rfl
theorem mean_spec {vr : Value} {wd hg : Nat} {rows : List (List Int)} {ac dn : Bool} {xx yy : Nat} {wv hv : Int} {tx ty ta td : Tok}
  (B : Below A₀ base outer h₀) (F : Fr h₀ L s.heap m) (X : (hd.heap_1 w.params).In h₀) (N : News h₀ L s.heap news) (T : Top p loose mean mg mb h₀) (hk : cs.kind = .function)
  (hV : DatIn news vr (gD rows)) (ok : Grid wd hg rows) (hwv : wv = two ac) (hhv : hv = two dn) (hw : wd < 1000) (hh : hg < 1000) (hdp : dp + 8 < recursionLimit) (hun : un + 60 < cLine)
  (ret : ∀ t h' tk', Fr h₀ L h' m → News h₀ L h' news → Q (.int (meanL rows wd hg ac dn yy xx) t) { s with heap := h', toks := tk' }) :
  wpAny (model PySem.Challenge.rw_ok0141_01.row.prog w) (ktrTop dp un gd cn cs L a ccd cl outer) (call (.ref 314) [vr, .int xx tx, .int yy ty, .int wv ta, .int hv td]) Q E s := by
  have hfill : PySem.Challenge.rw_ok0141_01 = PySem.Challenge.rw_ok0141_01 ∧ hd.heap_1 = hd.heap_1 := by k_fill; exact ⟨rfl, rfl⟩
  clear hfill
  obtain ⟨ar, vs, nn, rfl, har, hrs⟩ := grid_open hV
  have hlen : vs.length = hg := by rw [hrs.length]; simp [ok.len]
  have p1 := ok.hpos
  have p2 := ok.wpos
  refine wpAny_call ?_
  k_dflt ktr_enter
  subst hwv hhv
  k_steps
  refine stop_out ?_
  (rename Fr _ _ _ _ => F3); (rename News _ _ _ _ => N3)
  refine range_T (n := twoN dn) (GM (.ref ar) xx yy (two ac) (two dn) tx ty ta td (fun i => sumTo (fun j => cellL rows wd hg (yy * two dn + i) (xx * two ac + j)) (twoN ac)) news) rfl (by assumption) (two_small dn) (two_size dn) F3 N3 ⟨rfl, _, _, mmean_eq rfl rfl rfl rfl rfl rfl⟩ ?_ ?_
  · rintro i t m₁ nx h tk I oI hi ⟨rfl, tt, u, rfl⟩ hI F4 N4
    clear F3 N3
    dsimp only [envOf] at F4 N4
    have hy0 : 0 ≤ (yy : Int) * two dn := Int.mul_nonneg (Int.natCast_nonneg _) (two_b dn).1
    k_steps
    refine stop_out ?_
    (rename Fr _ _ _ _ => F5); (rename News _ _ _ _ => N5)
    refine range_T (n := twoN ac) (GN _ (.ref ar) xx yy (two ac) (two dn) tx ty ta td (sumTo (fun i => sumTo (fun j => cellL rows wd hg (yy * two dn + i) (xx * two ac + j)) (twoN ac)) i) (fun j => cellL rows wd hg (yy * two dn + i) (xx * two ac + j)) ((I, oI) :: nx)) rfl (by assumption) (two_small ac) (two_size ac) F5 N5 ⟨rfl, _, _, _, (Int.add_zero _).symm, gn_eq rfl rfl rfl rfl rfl rfl rfl⟩ ?_ ?_
    · rintro j tj m₂ nx2 h2 tk2 I2 oI2 hj ⟨rfl, tot, tt2, u2, rfl, rfl⟩ hI2 F6 N6
      clear F5 N5
      dsimp only [envOf] at F6 N6
      have hx0 : 0 ≤ (xx : Int) * two ac := Int.mul_nonneg (Int.natCast_nonneg _) (two_b ac).1
      k_steps
      (rename Fr _ _ _ _ => F7); (rename News _ _ _ _ => N7)
      refine ⟨_, _, _, _, rfl, F7, N7, hI2, rfl, _, _, _, ?_, gn_eq rfl rfl rfl rfl rfl rfl rfl⟩
      simp only [sumTo, cellL, cellG, minI, Int.zero_add, Int.mul_one, Int.add_assoc]
    · rintro m₂ nx2 h2 tk2 ⟨rfl, tot, tt2, u2, rfl, rfl⟩ F6 N6
      clear F5 N5
      dsimp only [envOf] at F6 N6
      k_steps
      (rename Fr _ _ _ _ => F7); (rename News _ _ _ _ => N7)
      exact ⟨_, _, _, _, rfl, F7, N7, hI, rfl, _, _, mmean_eq rfl rfl rfl rfl rfl rfl⟩
  · rintro m₁ nx h tk ⟨rfl, tt, u, rfl⟩ F4 N4
    clear F3 N3
    dsimp only [envOf] at F4 N4
    k_steps
    refine q_int (ret _ _ _ (by assumption) (by assumption)) ?_
    cases ac <;> cases dn <;> simp [meanL, totL, cellL, cellG, minI, two, sumTo, twoN, Int.add_assoc]
end
end
end
section
section
variable {w : World} {p : Program} {loose : List Str} {mean : ExcName → Option Value} {mg mb : Str → Option Value} {dp un : Nat} {gd : Option (List Code)} {cn : Str} {cs : Scope} {a : Addr} {ccd : Value} {cl : List (Str × Addr)} {outer : List Env} {A₀ : Around} {base h₀ : Heap} {L : Addr} {m : Str → Option Value} {news : List (Addr × Obj)} {s : Shared} {Q E : Value → Shared → Prop}


section
theorem kwC40_1 : True := by
  w_top off
  k_with_none
  (k_with "andf" => (first | assumption | exact And.left (by assumption) | exact And.left (And.right (by assumption)) | exact And.left (And.right (And.right (by assumption))) | exact And.left (And.right (And.right (And.right (by assumption)))) | exact And.left (And.right (And.right (And.right (And.right (by assumption))))) | exact And.left (And.right (And.right (And.right (And.right (And.right (by assumption)))))) | exact And.left (And.right (And.right (And.right (And.right (And.right (And.right (by assumption))))))) | exact And.left (And.right (And.right (And.right (And.right (And.right (And.right (And.right (by assumption)))))))) | exact And.left (And.right (And.right (And.right (And.right (And.right (And.right (And.right (And.right (by assumption))))))))) | exact And.left (And.right (And.right (And.right (And.right (And.right (And.right (And.right (And.right (And.right (by assumption)))))))))) | exact And.left (And.right (And.right (And.right (And.right (And.right (And.right (And.right (And.right (And.right (And.right (by assumption))))))))))) | exact And.left (And.right (And.right (And.right (And.right (And.right (And.right (And.right (And.right (And.right (And.right (And.right (by assumption)))))))))))) | exact And.left (And.right (And.right (And.right (And.right (And.right (And.right (And.right (And.right (And.right (And.right (And.right (And.right (by assumption))))))))))))) | exact And.left (And.right (And.right (And.right (And.right (And.right (And.right (And.right (And.right (And.right (And.right (And.right (And.right (And.right (by assumption))))))))))))))))
  (k_with "k_ne" => ((refine neN ?_; (try dsimp only); first | assumption | exact fun kwe9 => absurd kwe9.symm (by assumption) | exact ne_up1 | exact up_ne1 | exact ne_up2 | exact up_ne2 | exact ne_up3 | exact up_ne3 | exact ne_up4 | exact up_ne4 | exact ne_up5 | exact up_ne5 | exact ne_up6 | exact up_ne6 | exact ne_up7 | exact up_ne7 | exact Nat.ne_of_gt (by k_extra "andf") | exact Nat.ne_of_lt (by k_extra "andf") | omega)))
  (k_with "ktr_rel" => (first | exact List.mem_cons_self | ktr_member | (refine List.mem_cons_of_mem _ ?_; ktr_rel) | (refine List.mem_append.mpr (Or.inl ?_); ktr_rel) | (refine List.mem_append.mpr (Or.inr ?_); ktr_rel)))
  (k_with "call ref" => (((with_reducible show wpAny _ _ (call (Value.ref 143) _) _ _ _); k_dflt (refine kept_spec (by k_asm) (by k_asm) (by k_asm) (by k_asm) (by k_asm) (by first | rfl | assumption) (by ktr_room) (by ktr_units) ?_); intro kwt kwh kwtk kwF kwN; (try dsimp only); (try k_sweep))))
  (k_with "lcg_sub" => ((intro kwp kwhp; (try simp only [List.mem_append, List.mem_cons, kwhp, or_true, true_or]))))
  (k_with "call ref" => (((with_reducible show wpAny _ _ (call (Value.ref 84) _) _ _ _); k_dflt (refine at_spec (by k_asm) (by k_asm) (by k_asm) (by k_asm) (by k_asm) (by first | rfl | assumption) (by first | assumption | exact PlaneAt.mono (by assumption) (by lcg_sub)) (by assumption) (by assumption) (by ktr_room) (by ktr_units) ?_); intro kwt kwh kwtk kwF kwN; (try dsimp only); (try k_sweep))))
  (k_with "k_all" => (assumption))
  (k_with "size_fits" => (((simp only [List.size_toArray, PySem.sizeLine_eq]); omega)))
  trivial
/-- the names that a turn leaves as they were -/
theorem kwC40_2 : True := by
  w_top off
  k_with_none
  (k_with "andf" => (first | assumption | exact And.left (by assumption) | exact And.left (And.right (by assumption)) | exact And.left (And.right (And.right (by assumption))) | exact And.left (And.right (And.right (And.right (by assumption)))) | exact And.left (And.right (And.right (And.right (And.right (by assumption))))) | exact And.left (And.right (And.right (And.right (And.right (And.right (by assumption)))))) | exact And.left (And.right (And.right (And.right (And.right (And.right (And.right (by assumption))))))) | exact And.left (And.right (And.right (And.right (And.right (And.right (And.right (And.right (by assumption)))))))) | exact And.left (And.right (And.right (And.right (And.right (And.right (And.right (And.right (And.right (by assumption))))))))) | exact And.left (And.right (And.right (And.right (And.right (And.right (And.right (And.right (And.right (And.right (by assumption)))))))))) | exact And.left (And.right (And.right (And.right (And.right (And.right (And.right (And.right (And.right (And.right (And.right (by assumption))))))))))) | exact And.left (And.right (And.right (And.right (And.right (And.right (And.right (And.right (And.right (And.right (And.right (And.right (by assumption)))))))))))) | exact And.left (And.right (And.right (And.right (And.right (And.right (And.right (And.right (And.right (And.right (And.right (And.right (And.right (by assumption))))))))))))) | exact And.left (And.right (And.right (And.right (And.right (And.right (And.right (And.right (And.right (And.right (And.right (And.right (And.right (And.right (by assumption))))))))))))))))
  (k_with "k_ne" => ((refine neN ?_; (try dsimp only); first | assumption | exact fun kwe9 => absurd kwe9.symm (by assumption) | exact ne_up1 | exact up_ne1 | exact ne_up2 | exact up_ne2 | exact ne_up3 | exact up_ne3 | exact ne_up4 | exact up_ne4 | exact ne_up5 | exact up_ne5 | exact ne_up6 | exact up_ne6 | exact ne_up7 | exact up_ne7 | exact Nat.ne_of_gt (by k_extra "andf") | exact Nat.ne_of_lt (by k_extra "andf") | omega)))
  (k_with "ktr_rel" => (first | exact List.mem_cons_self | ktr_member | (refine List.mem_cons_of_mem _ ?_; ktr_rel) | (refine List.mem_append.mpr (Or.inl ?_); ktr_rel) | (refine List.mem_append.mpr (Or.inr ?_); ktr_rel)))
  (k_with "call ref" => (((with_reducible show wpAny _ _ (call (Value.ref 143) _) _ _ _); k_dflt (refine kept_spec (by k_asm) (by k_asm) (by k_asm) (by k_asm) (by k_asm) (by first | rfl | assumption) (by ktr_room) (by ktr_units) ?_); intro kwt kwh kwtk kwF kwN; (try dsimp only); (try k_sweep))))
  (k_with "lcg_sub" => ((intro kwp kwhp; (try simp only [List.mem_append, List.mem_cons, kwhp, or_true, true_or]))))
  (k_with "call ref" => (((with_reducible show wpAny _ _ (call (Value.ref 84) _) _ _ _); k_dflt (refine at_spec (by k_asm) (by k_asm) (by k_asm) (by k_asm) (by k_asm) (by first | rfl | assumption) (by first | assumption | exact PlaneAt.mono (by assumption) (by lcg_sub)) (by assumption) (by assumption) (by ktr_room) (by ktr_units) ?_); intro kwt kwh kwtk kwF kwN; (try dsimp only); (try k_sweep))))
  (k_with "k_all" => (assumption))
  (k_with "size_fits" => (((simp only [List.size_toArray, PySem.sizeLine_eq]); omega)))
  (k_with "dictfold_shaped2" => ((repeat' (first | exact Agree.ofT | (refine Agree.set (by decide) ?_) | refine Agree.nilc ?_ | (refine Agree.ofD (by decide) ?_)))))
  trivial
theorem hsize_spec {n : Nat} {b : Bool} {tn : Tok} (B : Below A₀ base outer h₀) (F : Fr h₀ L s.heap m) (X : (hd.heap_1 w.params).In h₀) (N : News h₀ L s.heap news) (T : Top p loose mean mg mb h₀) (hk : cs.kind = .function)
  (hn : n < 1000) (hdp : dp + 4 < recursionLimit) (hun : un + 30 < cLine)
  (ret : ∀ t h' tk', Fr h₀ L h' m → News h₀ L h' news → Q (.int (hlf n b : Nat) t) { s with heap := h', toks := tk' }) :
  wpAny (model PySem.Challenge.rw_ok0141_01.row.prog w) (ktrTop dp un gd cn cs L a ccd cl outer) (call (.ref 150) [.int n tn, .bool b]) Q E s := by
  have hfill : PySem.Challenge.rw_ok0141_01 = PySem.Challenge.rw_ok0141_01 ∧ hd.heap_1 = hd.heap_1 := by k_fill; exact ⟨rfl, rfl⟩
  clear hfill
  refine wpAny_call ?_
  k_dflt ktr_enter
  cases b
  · k_steps
    exact q_int (ret _ _ _ (by assumption) (by assumption)) (by simp [hlf])
  · k_steps
    exact q_int (ret _ _ _ (by assumption) (by assumption)) (by simp [hlf, fdiv_two])
theorem kwC40_3 : True := by
  w_top off
  k_with_none
  (k_with "andf" => (first | assumption | exact And.left (by assumption) | exact And.left (And.right (by assumption)) | exact And.left (And.right (And.right (by assumption))) | exact And.left (And.right (And.right (And.right (by assumption)))) | exact And.left (And.right (And.right (And.right (And.right (by assumption))))) | exact And.left (And.right (And.right (And.right (And.right (And.right (by assumption)))))) | exact And.left (And.right (And.right (And.right (And.right (And.right (And.right (by assumption))))))) | exact And.left (And.right (And.right (And.right (And.right (And.right (And.right (And.right (by assumption)))))))) | exact And.left (And.right (And.right (And.right (And.right (And.right (And.right (And.right (And.right (by assumption))))))))) | exact And.left (And.right (And.right (And.right (And.right (And.right (And.right (And.right (And.right (And.right (by assumption)))))))))) | exact And.left (And.right (And.right (And.right (And.right (And.right (And.right (And.right (And.right (And.right (And.right (by assumption))))))))))) | exact And.left (And.right (And.right (And.right (And.right (And.right (And.right (And.right (And.right (And.right (And.right (And.right (by assumption)))))))))))) | exact And.left (And.right (And.right (And.right (And.right (And.right (And.right (And.right (And.right (And.right (And.right (And.right (And.right (by assumption))))))))))))) | exact And.left (And.right (And.right (And.right (And.right (And.right (And.right (And.right (And.right (And.right (And.right (And.right (And.right (And.right (by assumption))))))))))))))))
  (k_with "k_ne" => ((refine neN ?_; (try dsimp only); first | assumption | exact fun kwe9 => absurd kwe9.symm (by assumption) | exact ne_up1 | exact up_ne1 | exact ne_up2 | exact up_ne2 | exact ne_up3 | exact up_ne3 | exact ne_up4 | exact up_ne4 | exact ne_up5 | exact up_ne5 | exact ne_up6 | exact up_ne6 | exact ne_up7 | exact up_ne7 | exact Nat.ne_of_gt (by k_extra "andf") | exact Nat.ne_of_lt (by k_extra "andf") | omega)))
  (k_with "ktr_rel" => (first | exact List.mem_cons_self | ktr_member | (refine List.mem_cons_of_mem _ ?_; ktr_rel) | (refine List.mem_append.mpr (Or.inl ?_); ktr_rel) | (refine List.mem_append.mpr (Or.inr ?_); ktr_rel)))
  (k_with "call ref" => (((with_reducible show wpAny _ _ (call (Value.ref 143) _) _ _ _); k_dflt (refine kept_spec (by k_asm) (by k_asm) (by k_asm) (by k_asm) (by k_asm) (by first | rfl | assumption) (by ktr_room) (by ktr_units) ?_); intro kwt kwh kwtk kwF kwN; (try dsimp only); (try k_sweep))))
  (k_with "lcg_sub" => ((intro kwp kwhp; (try simp only [List.mem_append, List.mem_cons, kwhp, or_true, true_or]))))
  (k_with "call ref" => (((with_reducible show wpAny _ _ (call (Value.ref 84) _) _ _ _); k_dflt (refine at_spec (by k_asm) (by k_asm) (by k_asm) (by k_asm) (by k_asm) (by first | rfl | assumption) (by first | assumption | exact PlaneAt.mono (by assumption) (by lcg_sub)) (by assumption) (by assumption) (by ktr_room) (by ktr_units) ?_); intro kwt kwh kwtk kwF kwN; (try dsimp only); (try k_sweep))))
  (k_with "k_all" => (assumption))
  (k_with "size_fits" => (((simp only [List.size_toArray, PySem.sizeLine_eq]); omega)))
  (k_with "dictfold_shaped2" => ((repeat' (first | exact Agree.ofT | (refine Agree.set (by decide) ?_) | refine Agree.nilc ?_ | (refine Agree.ofD (by decide) ?_)))))
  (k_with "exec For Name Call cons nil" => (((rename Fr _ _ _ _ => kwlF); (with_unfolding_all refine For_invVF kwlF (by exact rfl) (by exact rfl) ?_; k_whole))))
  (k_with "pyIter ref" => ((first | (with_reducible show wpAny _ _ (pyIter (Value.ref _)) (fun it s₂ => LoopAtV _ _ _ _ _ ("y" : Str) _ _ _ it s₂) _ _) | (with_reducible show wpAny _ _ (pyIter (Value.ref _)) (fun it s₂ => LoopAtV _ _ _ _ _ ("x" : Str) _ _ _ it s₂) _ _)); refine stop_in ?_))
  trivial
abbrev gH (m0 : Str → Option Value) (tot : Int) (tt : Tok) (u : Str → Option Value) : Str → Option Value := fun z => if z = ("total" : Str) then some (.int tot tt) else if [("step" : Str), ("turn" : Str)].contains z then u z else m0 z
def GH (m0 : Str → Option Value) (c0 : Int) (c : Nat → Int) (news : List (Addr × Obj)) (i : Nat) (m : Str → Option Value) (nx : List (Addr × Obj)) : Prop := nx = news ∧ ∃ tot tt u, tot = c0 + sumTo c i ∧ m = gH m0 tot tt u
theorem gh_eq {m m0 : Str → Option Value} {tot : Int} {tt : Tok} (h : m ("total" : Str) = some (.int tot tt)) (k : Agree [("step" : Str), ("turn" : Str)] ("total" : Str) m m0) : m = gH m0 tot tt m := by
  funext z
  by_cases z1 : z = ("total" : Str)
  · rw [gH, if_pos z1, z1, h]
  · cases z2 : [("step" : Str), ("turn" : Str)].contains z
    · rw [gH, if_neg z1, z2, if_neg (by decide)]; exact k z z1 z2
    · rw [gH, if_neg z1, z2, if_pos rfl]
theorem Agree.gh {m0 u : Str → Option Value} {tot : Int} {tt : Tok} : Agree [("step" : Str), ("turn" : Str)] ("total" : Str) (gH m0 tot tt u) m0 := by
  intro z z1 z2
  rw [gH, if_neg z1, z2, if_neg (by decide)]
def GI (m0 : Str → Option Value) (sv : Value) (c0 : Int) (c : Nat → Int) (news : List (Addr × Obj)) (i : Nat) (m : Str → Option Value) (nx : List (Addr × Obj)) : Prop := nx = news ∧ ∃ tot tt u, tot = c0 + sumTo c i ∧ m = (fun z => if z = ("step" : Str) then some sv else gH m0 tot tt u z)
theorem gi_eq {m m0 : Str → Option Value} {tot : Int} {tt : Tok} {sv : Value} (h0 : m ("step" : Str) = some sv) (h : m ("total" : Str) = some (.int tot tt)) (k : Agree [("step" : Str), ("turn" : Str)] ("total" : Str) m m0) : m = (fun z => if z = ("step" : Str) then some sv else gH m0 tot tt m z) := by
  have e := gh_eq h k
  funext z
  by_cases z0 : z = ("step" : Str)
  · rw [if_pos z0, z0, h0]
  · rw [if_neg z0]; exact congrFun e z
theorem gh_put {m0 u : Str → Option Value} {tot : Int} {tt : Tok} {k : Str} {v : Value} (hk : [("step" : Str), ("turn" : Str)].contains k = true) : (fun z => if z = k then some v else gH m0 tot tt u z) = gH m0 tot tt (fun z => if z = k then some v else u z) := by
  funext z
  by_cases z1 : z = k
  · subst z1
    have : z ≠ ("total" : Str) := by rintro rfl; revert hk; decide
    rw [if_pos rfl, gH, if_neg this, hk, if_pos rfl, if_pos rfl]
  · rw [if_neg z1, gH, gH, if_neg z1]
theorem kwC40_4 : True := by
  w_top off
  k_with_none
  (k_with "andf" => (first | assumption | exact And.left (by assumption) | exact And.left (And.right (by assumption)) | exact And.left (And.right (And.right (by assumption))) | exact And.left (And.right (And.right (And.right (by assumption)))) | exact And.left (And.right (And.right (And.right (And.right (by assumption))))) | exact And.left (And.right (And.right (And.right (And.right (And.right (by assumption)))))) | exact And.left (And.right (And.right (And.right (And.right (And.right (And.right (by assumption))))))) | exact And.left (And.right (And.right (And.right (And.right (And.right (And.right (And.right (by assumption)))))))) | exact And.left (And.right (And.right (And.right (And.right (And.right (And.right (And.right (And.right (by assumption))))))))) | exact And.left (And.right (And.right (And.right (And.right (And.right (And.right (And.right (And.right (And.right (by assumption)))))))))) | exact And.left (And.right (And.right (And.right (And.right (And.right (And.right (And.right (And.right (And.right (And.right (by assumption))))))))))) | exact And.left (And.right (And.right (And.right (And.right (And.right (And.right (And.right (And.right (And.right (And.right (And.right (by assumption)))))))))))) | exact And.left (And.right (And.right (And.right (And.right (And.right (And.right (And.right (And.right (And.right (And.right (And.right (And.right (by assumption))))))))))))) | exact And.left (And.right (And.right (And.right (And.right (And.right (And.right (And.right (And.right (And.right (And.right (And.right (And.right (And.right (by assumption))))))))))))))))
  (k_with "k_ne" => ((refine neN ?_; (try dsimp only); first | assumption | exact fun kwe9 => absurd kwe9.symm (by assumption) | exact ne_up1 | exact up_ne1 | exact ne_up2 | exact up_ne2 | exact ne_up3 | exact up_ne3 | exact ne_up4 | exact up_ne4 | exact ne_up5 | exact up_ne5 | exact ne_up6 | exact up_ne6 | exact ne_up7 | exact up_ne7 | exact Nat.ne_of_gt (by k_extra "andf") | exact Nat.ne_of_lt (by k_extra "andf") | omega)))
  (k_with "ktr_rel" => (first | exact List.mem_cons_self | ktr_member | (refine List.mem_cons_of_mem _ ?_; ktr_rel) | (refine List.mem_append.mpr (Or.inl ?_); ktr_rel) | (refine List.mem_append.mpr (Or.inr ?_); ktr_rel)))
  (k_with "call ref" => (((with_reducible show wpAny _ _ (call (Value.ref 143) _) _ _ _); k_dflt (refine kept_spec (by k_asm) (by k_asm) (by k_asm) (by k_asm) (by k_asm) (by first | rfl | assumption) (by ktr_room) (by ktr_units) ?_); intro kwt kwh kwtk kwF kwN; (try dsimp only); (try k_sweep))))
  (k_with "lcg_sub" => ((intro kwp kwhp; (try simp only [List.mem_append, List.mem_cons, kwhp, or_true, true_or]))))
  (k_with "call ref" => (((with_reducible show wpAny _ _ (call (Value.ref 84) _) _ _ _); k_dflt (refine at_spec (by k_asm) (by k_asm) (by k_asm) (by k_asm) (by k_asm) (by first | rfl | assumption) (by first | assumption | exact PlaneAt.mono (by assumption) (by lcg_sub)) (by assumption) (by assumption) (by ktr_room) (by ktr_units) ?_); intro kwt kwh kwtk kwF kwN; (try dsimp only); (try k_sweep))))
  (k_with "k_all" => (assumption))
  (k_with "size_fits" => (((simp only [List.size_toArray, PySem.sizeLine_eq]); omega)))
  (k_with "dictfold_shaped2" => ((repeat' (first | exact Agree.ofT | (refine Agree.set (by decide) ?_) | refine Agree.nilc ?_ | (refine Agree.ofD (by decide) ?_)))))
  (k_with "exec For Name Call cons nil" => (((rename Fr _ _ _ _ => kwlF); (with_unfolding_all refine For_invVF kwlF (by exact rfl) (by exact rfl) ?_; k_whole))))
  (k_with "pyIter ref" => ((first | (with_reducible show wpAny _ _ (pyIter (Value.ref _)) (fun it s₂ => LoopAtV _ _ _ _ _ ("y" : Str) _ _ _ it s₂) _ _) | (with_reducible show wpAny _ _ (pyIter (Value.ref _)) (fun it s₂ => LoopAtV _ _ _ _ _ ("x" : Str) _ _ _ it s₂) _ _)); refine stop_in ?_))
  (k_with "exec For Name Call cons nil" => (((first | (with_reducible show wpAny _ _ (exec (Stmt.For (Expr.Name ("step" : Str) _) _ _ _ _) _) _ _ _) | (with_reducible show wpAny _ _ (exec (Stmt.For (Expr.Name ("turn" : Str) _) _ _ _ _) _) _ _ _)); (rename Fr _ _ _ _ => kwlF); (with_unfolding_all refine' For_turns kwlF ?_); k_whole)))
  (k_with "pyIter ref" => (((with_reducible show wpAny _ _ (pyIter (Value.ref _)) (fun it s₂ => TurnsAt _ _ _ _ _ _ _ _ _ it s₂) _ _); refine stop_in ?_)))
  (k_with "call ref" => (((with_reducible show wpAny _ _ (call (Value.ref 150) _) _ _ _); k_dflt (refine hsize_spec (by k_asm) (by k_asm) (by k_asm) (by k_asm) (by k_asm) (by first | rfl | assumption) (by assumption) (by ktr_room) (by ktr_units) ?_); intro kwt kwh kwtk kwF kwN; (try dsimp only); (try k_sweep))))
  (k_with "mul_fits" => (first | exact mulOk_two | exact two_mulOk))
  trivial
theorem tw_ne {a b : Bool} : two a * two b ≠ 0 := by cases a <;> cases b <;> decide
theorem tw_log {a b : Bool} : (two a * two b).natAbs.log2 < 9000 := by cases a <;> cases b <;> decide
theorem kwC40_5 : True := by
  w_top off
  k_with_none
  (k_with "andf" => (first | assumption | exact And.left (by assumption) | exact And.left (And.right (by assumption)) | exact And.left (And.right (And.right (by assumption))) | exact And.left (And.right (And.right (And.right (by assumption)))) | exact And.left (And.right (And.right (And.right (And.right (by assumption))))) | exact And.left (And.right (And.right (And.right (And.right (And.right (by assumption)))))) | exact And.left (And.right (And.right (And.right (And.right (And.right (And.right (by assumption))))))) | exact And.left (And.right (And.right (And.right (And.right (And.right (And.right (And.right (by assumption)))))))) | exact And.left (And.right (And.right (And.right (And.right (And.right (And.right (And.right (And.right (by assumption))))))))) | exact And.left (And.right (And.right (And.right (And.right (And.right (And.right (And.right (And.right (And.right (by assumption)))))))))) | exact And.left (And.right (And.right (And.right (And.right (And.right (And.right (And.right (And.right (And.right (And.right (by assumption))))))))))) | exact And.left (And.right (And.right (And.right (And.right (And.right (And.right (And.right (And.right (And.right (And.right (And.right (by assumption)))))))))))) | exact And.left (And.right (And.right (And.right (And.right (And.right (And.right (And.right (And.right (And.right (And.right (And.right (And.right (by assumption))))))))))))) | exact And.left (And.right (And.right (And.right (And.right (And.right (And.right (And.right (And.right (And.right (And.right (And.right (And.right (And.right (by assumption))))))))))))))))
  (k_with "k_ne" => ((refine neN ?_; (try dsimp only); first | assumption | exact fun kwe9 => absurd kwe9.symm (by assumption) | exact ne_up1 | exact up_ne1 | exact ne_up2 | exact up_ne2 | exact ne_up3 | exact up_ne3 | exact ne_up4 | exact up_ne4 | exact ne_up5 | exact up_ne5 | exact ne_up6 | exact up_ne6 | exact ne_up7 | exact up_ne7 | exact Nat.ne_of_gt (by k_extra "andf") | exact Nat.ne_of_lt (by k_extra "andf") | omega)))
  (k_with "ktr_rel" => (first | exact List.mem_cons_self | ktr_member | (refine List.mem_cons_of_mem _ ?_; ktr_rel) | (refine List.mem_append.mpr (Or.inl ?_); ktr_rel) | (refine List.mem_append.mpr (Or.inr ?_); ktr_rel)))
  (k_with "call ref" => (((with_reducible show wpAny _ _ (call (Value.ref 143) _) _ _ _); k_dflt (refine kept_spec (by k_asm) (by k_asm) (by k_asm) (by k_asm) (by k_asm) (by first | rfl | assumption) (by ktr_room) (by ktr_units) ?_); intro kwt kwh kwtk kwF kwN; (try dsimp only); (try k_sweep))))
  (k_with "lcg_sub" => ((intro kwp kwhp; (try simp only [List.mem_append, List.mem_cons, kwhp, or_true, true_or]))))
  (k_with "call ref" => (((with_reducible show wpAny _ _ (call (Value.ref 84) _) _ _ _); k_dflt (refine at_spec (by k_asm) (by k_asm) (by k_asm) (by k_asm) (by k_asm) (by first | rfl | assumption) (by first | assumption | exact PlaneAt.mono (by assumption) (by lcg_sub)) (by assumption) (by assumption) (by ktr_room) (by ktr_units) ?_); intro kwt kwh kwtk kwF kwN; (try dsimp only); (try k_sweep))))
  (k_with "k_all" => (assumption))
  (k_with "size_fits" => (((simp only [List.size_toArray, PySem.sizeLine_eq]); omega)))
  (k_with "dictfold_shaped2" => ((repeat' (first | exact Agree.ofT | (refine Agree.set (by decide) ?_) | refine Agree.nilc ?_ | (refine Agree.ofD (by decide) ?_)))))
  (k_with "exec For Name Call cons nil" => (((rename Fr _ _ _ _ => kwlF); (with_unfolding_all refine For_invVF kwlF (by exact rfl) (by exact rfl) ?_; k_whole))))
  (k_with "pyIter ref" => ((first | (with_reducible show wpAny _ _ (pyIter (Value.ref _)) (fun it s₂ => LoopAtV _ _ _ _ _ ("y" : Str) _ _ _ it s₂) _ _) | (with_reducible show wpAny _ _ (pyIter (Value.ref _)) (fun it s₂ => LoopAtV _ _ _ _ _ ("x" : Str) _ _ _ it s₂) _ _)); refine stop_in ?_))
  (k_with "exec For Name Call cons nil" => (((first | (with_reducible show wpAny _ _ (exec (Stmt.For (Expr.Name ("step" : Str) _) _ _ _ _) _) _ _ _) | (with_reducible show wpAny _ _ (exec (Stmt.For (Expr.Name ("turn" : Str) _) _ _ _ _) _) _ _ _)); (rename Fr _ _ _ _ => kwlF); (with_unfolding_all refine' For_turns kwlF ?_); k_whole)))
  (k_with "pyIter ref" => (((with_reducible show wpAny _ _ (pyIter (Value.ref _)) (fun it s₂ => TurnsAt _ _ _ _ _ _ _ _ _ it s₂) _ _); refine stop_in ?_)))
  (k_with "call ref" => (((with_reducible show wpAny _ _ (call (Value.ref 150) _) _ _ _); k_dflt (refine hsize_spec (by k_asm) (by k_asm) (by k_asm) (by k_asm) (by k_asm) (by first | rfl | assumption) (by assumption) (by ktr_room) (by ktr_units) ?_); intro kwt kwh kwtk kwF kwN; (try dsimp only); (try k_sweep))))
  (k_with "mul_fits" => (first | exact mulOk_two | exact two_mulOk))
  (k_with "binaryOp FloorDiv int int" => ((k_dflt (refine floordiv_int tw_ne ?_ (Or.inl (PyProof.noPylong_of_log2 tw_log))))))
  trivial
theorem halved_spec {x : Addr} {wd hg : Nat} {rows : List (List Int)} {ac dn : Bool}
  (B : Below A₀ base outer h₀) (F : Fr h₀ L s.heap m) (X : (hd.heap_1 w.params).In h₀) (N : News h₀ L s.heap news) (T : Top p loose mean mg mb h₀) (hk : cs.kind = .function)
  (hP : PlaneAt news x wd hg rows) (hw : wd < 1000) (hh : hg < 1000) (hdp : dp + 8 < recursionLimit) (hun : un + 60 < cLine)
  (ret : ∀ x' tl h' tk', Fr h₀ L h' m → News h₀ L h' (news ++ tl) → Behind news tl → PlaneAt tl x' (hlf wd ac) (hlf hg dn) (halvedG rows wd hg ac dn) → Q (.ref x') { s with heap := h', toks := tk' }) :
  wpAny (model PySem.Challenge.rw_ok0141_01.row.prog w) (ktrTop dp un gd cn cs L a ccd cl outer) (call (.ref 157) [.ref x, .bool ac, .bool dn]) Q E s := by
  have hfill : PySem.Challenge.rw_ok0141_01 = PySem.Challenge.rw_ok0141_01 ∧ hd.heap_1 = hd.heap_1 := by k_fill; exact ⟨rfl, rfl⟩
  clear hfill
  refine hP.elim ?_
  intro dx h1 t1 h2 t2 h3 t3 n tw th vr hx hdx hvr ok
  have q1 := hlf_pos (h := dn) ok.hpos
  have q2 := hlf_pos (h := ac) ok.wpos
  have q3 := hlf_lt (h := dn) hh
  have q4 := hlf_lt (h := ac) hw
  unfold halvedG at ret
  obtain ⟨f, hf⟩ : ∃ f, f = meanH rows wd hg ac dn := ⟨_, rfl⟩
  rw [← hf] at ret
  obtain ⟨n1, hn1⟩ : ∃ n, n = hlf hg dn := ⟨_, rfl⟩
  obtain ⟨n2, hn2⟩ : ∃ n, n = hlf wd ac := ⟨_, rfl⟩
  rw [← hn1] at ret q1 q3
  rw [← hn2] at ret q2 q4
  refine wpAny_call ?_
  k_dflt ktr_enter
  k_steps
  (rename Fr _ _ _ _ => F9); (rename News _ _ _ _ => N9)
  simp only [show (1 : Int) + (if ac = true then 1 else 0) = two ac from by cases ac <;> rfl, show (1 : Int) + (if dn = true then 1 else 0) = two dn from by cases dn <;> rfl] at F9
  (try rw [← hn1] at F9)
  (try rw [← hn2] at F9)
  refine stop_out ?_
  refine build_range0 (n := n1) (fun y tl v => DatIn tl v (rowD ((List.range n2).map (f y)))) ["row", "x", "total", "step", "turn"] (fun _ _ _ _ k r => r.mono k)
      rfl (by assumption) (by rw [← hn1]; exact small_nat (by omega)) (by rw [← hn1]; exact size_nat _) (by assumption) (by assumption) (by assumption) ?_ ?_
  · intro y ty vs e Y u h tk hy hl hYr hZY F1 N1
    have hPY := hP.mono (fun p hp => hZY p (by simp [hp]))
    k_steps
    refine stop_out ?_
    (rename Fr _ _ _ _ => F8); (rename News _ _ _ _ => N8)
    refine build_range0 (n := n2) (fun x tl v => ∃ t, v = .int (f y x) t) ["total", "step", "turn"] (fun _ _ _ _ k r => r)
        rfl (by assumption) (small_nat (by omega)) (size_nat _) (by assumption) (by assumption) (by assumption) ?_ ?_
    · intro x2 tx2 vs2 e2 Y2 u2 h2 tk2 hx2 hl2 hYr2 hZY2 F2 N2
      have hPY2 := hPY.mono (fun p hp => hZY2 p (by simp [hp]))
      refine hPY2.elim ?_
      intro dx' h1' t1' h2' t2' h3' t3' n' tw' th' vr' hx' hdx' hvr' _
      clear F8 N8
      k_steps
      refine stop_out ?_
      (rename Fr _ _ _ _ => F3); (rename News _ _ _ _ => N3)
      refine range_T (n := twoN dn) (GH _ 0 (fun i => sumTo (fun j => cellK rows wd hg (x2 * two ac + j) (y * two dn + i)) (twoN ac)) _) rfl (by assumption) (two_small dn) (two_size dn) F3 N3 ⟨rfl, _, _, _, rfl, gh_eq rfl (Agree.set (.inl rfl) (fun _ _ _ => rfl))⟩ ?_ ?_
      · rintro i t m₁ nx h tk I oI hi ⟨rfl, tot, tt, u, rfl, rfl⟩ hI F4 N4
        clear F3 N3
        dsimp only [envOf] at F4 N4
        have hy0 : 0 ≤ (y : Int) * two dn := Int.mul_nonneg (Int.natCast_nonneg _) (two_b dn).1
        k_steps
        refine stop_out ?_
        (rename Fr _ _ _ _ => F5); (rename News _ _ _ _ => N5)
        refine range_T (n := twoN ac) (GI _ _ (0 + sumTo (fun i => sumTo (fun j => cellK rows wd hg (x2 * two ac + j) (y * two dn + i)) (twoN ac)) i) (fun j => cellK rows wd hg (x2 * two ac + j) (y * two dn + i)) _) rfl (by assumption) (two_small ac) (two_size ac) F5 N5 ⟨rfl, _, _, _, (Int.add_zero _).symm, rfl⟩ ?_ ?_
        · rintro j tj m₂ nx2 h2 tk2 I2 oI2 hj ⟨rfl, tot, tt2, u2, rfl, rfl⟩ hI2 F6 N6
          clear F5 N5
          dsimp only [envOf] at F6 N6
          have hx0 : 0 ≤ (x2 : Int) * two ac := Int.mul_nonneg (Int.natCast_nonneg _) (two_b ac).1
          k_steps
          (rename Fr _ _ _ _ => F7); (rename News _ _ _ _ => N7)
          refine ⟨_, _, _, _, rfl, F7, N7, hI2, rfl, _, _, _, ?_, gi_eq rfl rfl (Agree.set (.inl rfl) (Agree.set (.inr rfl) (Agree.set (.inr rfl) Agree.gh)))⟩
          simp only [sumTo, cellK, Int.zero_add, Int.mul_one, Int.add_assoc]
        · rintro m₂ nx2 h2 tk2 ⟨rfl, tot, tt2, u2, rfl, rfl⟩ F6 N6
          clear F5 N5
          dsimp only [envOf] at F6 N6
          k_steps
          (rename Fr _ _ _ _ => F7); (rename News _ _ _ _ => N7)
          exact ⟨_, _, _, _, rfl, F7, N7, hI, rfl, _, _, _, Int.add_assoc .., gh_put rfl⟩
      · rintro m₁ nx h tk ⟨rfl, tot, tt, u, rfl, rfl⟩ F4 N4
        clear F3 N3
        dsimp only [envOf] at F4 N4
        k_steps
        refine bend0_nil (by assumption) (by assumption) ?_ ?_
        · dictfold_shaped2
        · refine ⟨_, congrArg (fun z => Value.int z _) ?_⟩
          subst hf
          cases ac <;> cases dn <;> simp [meanH, totH, sumTo, two, twoN, cellK, Int.add_assoc]
    · intro vs2 e2 tl2 u2 h2 tk2 hl2 F2 N2 o1 o2 hR2
      simp only [List.cons_append] at N2
      have hq := off_app (tl := tl2) hYr o2 rfl
      k_steps
      refine bend0_row (by assumption) (by assumption) (by assumption) o2 ?_ ?_
      · dictfold_shaped2
      · exact .list List.mem_cons_self (ints_datAll (ints_of_get hl2 hR2))
  · intro vs e tl u h tk hl F1 N1 o1 o2 hR
    k_steps
    obtain ⟨TL, a1, a2, a3⟩ := plane_made (by assumption) (by assumption) (And.left (by assumption)) (by assumption) o2 rfl rfl hl hR q1 q2
    exact ret _ _ _ _ (by assumption) a1 a2 a3
end
end
end
section
section
variable {w : World} {p : Program} {loose : List Str} {mean : ExcName → Option Value} {mg mb : Str → Option Value} {dp un : Nat} {gd : Option (List Code)} {cn : Str} {cs : Scope} {a : Addr} {ccd : Value} {cl : List (Str × Addr)} {outer : List Env} {A₀ : Around} {base h₀ : Heap} {L : Addr} {m : Str → Option Value} {news : List (Addr × Obj)} {s : Shared} {Q E : Value → Shared → Prop}

theorem kwT4_1 : True := by
  w_top off
  k_with_none
  (k_with "andf" => (first | assumption | exact And.left (by assumption) | exact And.left (And.right (by assumption)) | exact And.left (And.right (And.right (by assumption))) | exact And.left (And.right (And.right (And.right (by assumption)))) | exact And.left (And.right (And.right (And.right (And.right (by assumption))))) | exact And.left (And.right (And.right (And.right (And.right (And.right (by assumption)))))) | exact And.left (And.right (And.right (And.right (And.right (And.right (And.right (by assumption))))))) | exact And.left (And.right (And.right (And.right (And.right (And.right (And.right (And.right (by assumption)))))))) | exact And.left (And.right (And.right (And.right (And.right (And.right (And.right (And.right (And.right (by assumption))))))))) | exact And.left (And.right (And.right (And.right (And.right (And.right (And.right (And.right (And.right (And.right (by assumption)))))))))) | exact And.left (And.right (And.right (And.right (And.right (And.right (And.right (And.right (And.right (And.right (And.right (by assumption))))))))))) | exact And.left (And.right (And.right (And.right (And.right (And.right (And.right (And.right (And.right (And.right (And.right (And.right (by assumption)))))))))))) | exact And.left (And.right (And.right (And.right (And.right (And.right (And.right (And.right (And.right (And.right (And.right (And.right (And.right (by assumption))))))))))))) | exact And.left (And.right (And.right (And.right (And.right (And.right (And.right (And.right (And.right (And.right (And.right (And.right (And.right (And.right (by assumption))))))))))))))))
  (k_with "k_ne" => ((refine neN ?_; (try dsimp only); first | assumption | exact fun kwe9 => absurd kwe9.symm (by assumption) | exact ne_up1 | exact up_ne1 | exact ne_up2 | exact up_ne2 | exact ne_up3 | exact up_ne3 | exact ne_up4 | exact up_ne4 | exact ne_up5 | exact up_ne5 | exact ne_up6 | exact up_ne6 | exact ne_up7 | exact up_ne7 | exact Nat.ne_of_gt (by k_extra "andf") | exact Nat.ne_of_lt (by k_extra "andf") | omega)))
  (k_with "ktr_rel" => (first | exact List.mem_cons_self | ktr_member | (refine List.mem_cons_of_mem _ ?_; ktr_rel) | (refine List.mem_append.mpr (Or.inl ?_); ktr_rel) | (refine List.mem_append.mpr (Or.inr ?_); ktr_rel)))
  (k_with "lcg_sub" => ((intro kwp kwhp; (try simp only [List.mem_append, List.mem_cons, kwhp, or_true, true_or]))))
  (k_with "call ref" => (((with_reducible show wpAny _ _ (call (Value.ref 314) _) _ _ _); k_dflt (refine mean_spec (by k_asm) (by k_asm) (by k_asm) (by k_asm) (by k_asm) (by first | rfl | assumption) (by first | assumption | exact datIn_up (by assumption) (by lcg_sub)) (by assumption) (by assumption) (by assumption) (by assumption) (by assumption) (by ktr_room) (by ktr_units) ?_); intro kwt kwh kwtk kwF kwN; (try dsimp only); (try k_sweep))))
  trivial
def hlfL (wd hg : Nat) (rows : List (List Int)) (ac dn : Bool) : List (List Int) :=
  (List.range (hlf hg dn)).map fun (y : Nat) => (List.range (hlf wd ac)).map fun (x : Nat) => meanL rows wd hg ac dn y x
section
theorem kwT4_2 : True := by
  w_top off
  k_with_none
  (k_with "andf" => (first | assumption | exact And.left (by assumption) | exact And.left (And.right (by assumption)) | exact And.left (And.right (And.right (by assumption))) | exact And.left (And.right (And.right (And.right (by assumption)))) | exact And.left (And.right (And.right (And.right (And.right (by assumption))))) | exact And.left (And.right (And.right (And.right (And.right (And.right (by assumption)))))) | exact And.left (And.right (And.right (And.right (And.right (And.right (And.right (by assumption))))))) | exact And.left (And.right (And.right (And.right (And.right (And.right (And.right (And.right (by assumption)))))))) | exact And.left (And.right (And.right (And.right (And.right (And.right (And.right (And.right (And.right (by assumption))))))))) | exact And.left (And.right (And.right (And.right (And.right (And.right (And.right (And.right (And.right (And.right (by assumption)))))))))) | exact And.left (And.right (And.right (And.right (And.right (And.right (And.right (And.right (And.right (And.right (And.right (by assumption))))))))))) | exact And.left (And.right (And.right (And.right (And.right (And.right (And.right (And.right (And.right (And.right (And.right (And.right (by assumption)))))))))))) | exact And.left (And.right (And.right (And.right (And.right (And.right (And.right (And.right (And.right (And.right (And.right (And.right (And.right (by assumption))))))))))))) | exact And.left (And.right (And.right (And.right (And.right (And.right (And.right (And.right (And.right (And.right (And.right (And.right (And.right (And.right (by assumption))))))))))))))))
  (k_with "k_ne" => ((refine neN ?_; (try dsimp only); first | assumption | exact fun kwe9 => absurd kwe9.symm (by assumption) | exact ne_up1 | exact up_ne1 | exact ne_up2 | exact up_ne2 | exact ne_up3 | exact up_ne3 | exact ne_up4 | exact up_ne4 | exact ne_up5 | exact up_ne5 | exact ne_up6 | exact up_ne6 | exact ne_up7 | exact up_ne7 | exact Nat.ne_of_gt (by k_extra "andf") | exact Nat.ne_of_lt (by k_extra "andf") | omega)))
  (k_with "ktr_rel" => (first | exact List.mem_cons_self | ktr_member | (refine List.mem_cons_of_mem _ ?_; ktr_rel) | (refine List.mem_append.mpr (Or.inl ?_); ktr_rel) | (refine List.mem_append.mpr (Or.inr ?_); ktr_rel)))
  (k_with "lcg_sub" => ((intro kwp kwhp; (try simp only [List.mem_append, List.mem_cons, kwhp, or_true, true_or]))))
  (k_with "call ref" => (((with_reducible show wpAny _ _ (call (Value.ref 314) _) _ _ _); k_dflt (refine mean_spec (by k_asm) (by k_asm) (by k_asm) (by k_asm) (by k_asm) (by first | rfl | assumption) (by first | assumption | exact datIn_up (by assumption) (by lcg_sub)) (by assumption) (by assumption) (by assumption) (by assumption) (by assumption) (by ktr_room) (by ktr_units) ?_); intro kwt kwh kwtk kwF kwN; (try dsimp only); (try k_sweep))))
  (k_with "size_fits" => (((simp only [List.size_toArray, PySem.sizeLine_eq]); omega)))
  (k_with "call builtin:len" => (((with_reducible show wpAny _ _ (call (Value.builtin "len") [Value.ref _]) _ _ _); k_dflt (refine len_led (by k_asm) (by k_mem) (by assumption) (by omega) ?_; k_whole))))
  (k_with "subscriptTail" => ((k_dflt (refine item_rows (by k_asm) (by k_mem) (by assumption) (by assumption) (by omega) (by omega) (by omega) ?_ ?_); (intro kwai kwus kwei kwhmi kwhii kwhli kwhlg); (try dsimp only))))
  (k_with "ktr_enter" => ((refine code_defC (by k_asm) (by k_asm) (by k_asm) (by k_asm) (by k_asm) (by exact rfl) (by exact rfl) (by assumption) (by k_is) (by k_is) (by ktr_room) (by exact BindsTo.of_eq rfl) (by exact rfl) (by decide +kernel) ?_ (by exact rfl) (by exact rfl) (by exact rfl); k_whole; intro kwg kwL kwh kwtk kwcells kwFG kwF kwN kwY kwB kwX kwT kwl1; (try k_lt kwl1); k_cells kwY; (try simp only [List.cons_append, List.nil_append] at kwN); (try dsimp only); (try k_fold))))
  (k_with "eval ListComp" => (((with_reducible show wpAny _ _ (eval (Expr.ListComp _ [⟨_, Expr.Name _ _, _, _⟩] _ _) _) _ _ _); k_dflt (refine ListComp_T (F₀ := by k_asm) (by with_unfolding_all rfl) (by decide) (by rfl) (by decide) (by rfl) ?_))))
  (k_with "eval ListComp" => (((with_reducible show wpAny _ _ (eval (Expr.ListComp _ [⟨_, Expr.Call _ _ _ _, _, _⟩] _ _) _) _ _ _); first | k_dflt (refine LCg.ListComp_U (F₀ := by k_asm) (by with_unfolding_all rfl) (by decide) (by rfl) (by decide) (by rfl) ?_) | k_dflt (refine ListComp_C (F₀ := by k_asm) (by with_unfolding_all rfl) (by rfl) (by decide) (fun _ => rfl) (fun _ => rfl) (by rfl) ?_))))
  (k_with "k_all" => (first | assumption | (refine List.forall_mem_append.mpr ⟨(by k_all), (by k_all)⟩) | (intro kwp9 kwhp9; have kwh9 := (by assumption : ∀ p ∈ _, @LT.lt Nat _ p.1 _) kwp9 kwhp9; refine neN ?_; (try dsimp only at kwh9 ⊢); omega)))
  trivial
theorem lhalved_spec {vr : Value} {st : Addr} {sn : Nat} {wd hg : Nat} {rows : List (List Int)} {ac dn : Bool}
  (B : Below A₀ base outer h₀) (F : Fr h₀ L s.heap m) (X : (hd.heap_1 w.params).In h₀) (N : News h₀ L s.heap news) (T : Top p loose mean mg mb h₀) (hk : cs.kind = .function)
  (hV : DatIn news vr (gD rows)) (ok : Grid wd hg rows) (hst : (st, ({ cls := .type "tuple", data := .seq #[.bool ac, .bool dn] sn } : Obj)) ∈ news) (hw : wd < 1000) (hh : hg < 1000) (hdp : dp + 12 < recursionLimit) (hun : un + 100 < cLine)
  (ret : ∀ v tl h' tk', Fr h₀ L h' m → News h₀ L h' (news ++ tl) → Behind news tl → DatIn tl v (gD (hlfL wd hg rows ac dn)) → Q v { s with heap := h', toks := tk' }) :
  wpAny (model PySem.Challenge.rw_ok0141_01.row.prog w) (ktrTop dp un gd cn cs L a ccd cl outer) (call (.ref 319) [vr, .ref st]) Q E s := by
  have hfill : PySem.Challenge.rw_ok0141_01 = PySem.Challenge.rw_ok0141_01 ∧ hd.heap_1 = hd.heap_1 := by k_fill; exact ⟨rfl, rfl⟩
  clear hfill
  obtain ⟨ar, vs, nn, rfl, har, hrs⟩ := grid_open hV
  have hlen : vs.length = hg := by rw [hrs.length]; simp [ok.len]
  obtain ⟨w1, w2⟩ := two_le ac
  obtain ⟨w3, w4⟩ := two_le dn
  have e1 := fdiv_up (n := wd) (b := ac)
  have e2 := fdiv_up (n := hg) (b := dn)
  obtain ⟨wv, hwv⟩ : ∃ z, z = two ac := ⟨_, rfl⟩
  obtain ⟨hv, hhv⟩ : ∃ z, z = two dn := ⟨_, rfl⟩
  rw [← hwv] at w1 w2 e1
  rw [← hhv] at w3 w4 e2
  have p1 := ok.hpos
  have p2 := ok.wpos
  refine wpAny_call ?_
  k_dflt ktr_enter
  k_steps
  refine ⟨st, #[.bool ac, .bool dn], sn, _, rfl, rfl, by assumption, by assumption, by k_mem, by simp [sizeLine_eq], ?_⟩
  rintro _ ⟨g, rfl⟩
  refine comp_go (n := 2) [] [] (fun M => M = []) (fun j tl v => ∃ t, v = .int (two (if j = 0 then ac else dn)) t) (fun M h => by rw [h]; rfl) (by simp) (fun _ _ _ _ _ r => r) ?_ ?_ ?_ rfl
  · rintro M tl rfl
    k_mem
  · rintro i v I oI C oC D ys m₂ h tk E' M Y hi hl hP rfl hYa hZY off hne hC hx F2 N2
    obtain ⟨b, rfl, hb⟩ : ∃ b, v = .bool b ∧ b = (if i = 0 then ac else dn) := by
      rcases pair_get hP with ⟨rfl, rfl⟩ | ⟨rfl, rfl⟩
      · exact ⟨_, rfl, rfl⟩
      · exact ⟨_, rfl, rfl⟩
    rw [← hb]
    cases b
    · k_steps
      exact cend_nil [] (by assumption) (by assumption) rfl ⟨_, rfl⟩
    · k_steps
      exact cend_nil [] (by assumption) (by assumption) rfl ⟨_, rfl⟩
  · rintro ys M tl hl rfl hb _ hR
    obtain ⟨y0, y1, rfl⟩ : ∃ a b, ys = [a, b] := by
      match ys, hl with
      | [a, b], _ => exact ⟨a, b, rfl⟩
    obtain ⟨t0, rfl⟩ := hR 0 y0 rfl
    obtain ⟨t1, rfl⟩ := hR 1 y1 rfl
    simp only [if_true, show ((1 : Nat) = 0) = False by decide, if_false, ← hwv, ← hhv]
    intro D h3 tk3 F3 N3 off3
    have N4 := news_drop N3
    have off4 := off1_drop off3
    clear N3 off3
    simp only [List.nil_append, LCg.Off1] at N4 off4
    k_steps
    refine ⟨_, _, _, _, _, hlf hg dn, _, (fun y tl v => DatIn tl v (rowD ((List.range (hlf wd ac)).map fun (x : Nat) => meanL rows wd hg ac dn y x))), rfl, rfl, by assumption, by assumption, by assumption, by rw [e2]; exact small_nat (by have := hlf_lt (h := dn) hh; omega), by rw [e2]; exact size_nat _, by have := hlf_lt (h := dn) hh; rw [sizeLine_eq]; omega, fun _ _ _ _ k r => r.mono k, ?_, ?_⟩
    · intro i t I oI C oC K oK D2 ys2 h4 tk4 E' Y hi hl2 hK hZY F4 N4
      have hVY : DatIn Y (.ref ar) (gD rows) := hV.mono fun p hp => hZY p (by simp [hp])
      simp only [List.forall_mem_cons] at hZY
      refine ae7 hZY ?_
      clear hZY
      intro z1 z2 z3 z4 z5 z6 z7
      k_steps
      refine LCg.CompSrc.range rfl (by assumption) (by assumption) (by assumption) (by rw [e1]; exact small_nat (by have := hlf_lt (h := ac) hw; omega)) (by rw [e1]; exact size_nat _) (by have := hlf_lt (h := ac) hw; rw [sizeLine_eq]; omega) ?_
      intro g5
      refine comp_go (n := hlf wd ac) [] [] (fun M => M = []) (fun x tl v => ∃ t, v = .int (meanL rows wd hg ac dn i x) t) (fun M h => by rw [h]; rfl) (by simp) (fun _ _ _ _ _ r => r) (fun _ _ _ => trivial) ?_ ?_ rfl
      · rintro i3 v3 I3 oI3 C3 oC3 D3 ys3 m3 h6 tk6 E6 M6 Y6 hi3 hl3 ⟨t3, rfl⟩ rfl hYa3 hZY3 off3 hne3 hC3 hx3 F6 N6
        have hVY6 : DatIn Y6 (.ref ar) (gD rows) := hVY.mono fun p hp => hZY3 p (by simp [hp])
        simp only [List.forall_mem_cons] at hZY3
        refine ae5 hZY3 ?_
        clear hZY3
        intro q1 q2 q3 q4 q5
        have z6' := q5 _ z6
        have z3' := q5 _ z3
        have z4' := q5 _ z4
        have z5' := q5 _ z5
        simp only [Int.zero_add] at hx3
        k_steps
        exact cend_nil [] (by assumption) (by assumption) rfl ⟨_, rfl⟩
      · rintro ys3 M6 tl3 hl3 rfl hb3 _ hR3
        intro D3 h6 tk6 F6 N6 off6
        simp only [List.nil_append] at N6 off6
        have o9 := off1_all off6
        have i9 : IntsAre ys3 ((List.range (hlf wd ac)).map fun (x : Nat) => meanL rows wd hg ac dn i x) := ints_of_get hl3 hR3
        refine ⟨h6, tk6, (D3, LCg.lst ys3) :: tl3, rfl, F6, fun p hp => N6 p ?_, ?_, .list List.mem_cons_self (ints_datAll i9)⟩
        · exact mem_mid hp
        · intro q hq p hp
          rcases List.mem_cons.mp hp with rfl | hp
          · exact fun e => o9 q (List.mem_append_left _ hq) e.symm
          · exact hb3 q hq p hp
    · intro ys4 tl4 D4 h4 tk4 hl4 hb4 hR4 F4 N4 off4
      k_steps
      have i9 : DatAll tl4 ys4 (((List.range (hlf hg dn)).map fun (y : Nat) => rowD ((List.range (hlf wd ac)).map fun (x : Nat) => meanL rows wd hg ac dn y x))) := dats_of_get hl4 hR4
      refine ret _ ((D4, LCg.lst ys4) :: tl4) _ _ (by assumption) ?_ ?_ ?_
      · intro p hp
        (rename News _ _ _ _ => N9)
        refine N9 p ?_
        have := mem_mid hp
        simp only [List.mem_cons, List.mem_append] at this ⊢
        rcases this with h | h | h
        · exact .inl h
        · simp [h]
        · simp [h]
      · intro q hq p hp
        rcases List.mem_cons.mp hp with rfl | hp
        · exact fun e => off4 q (by simp [hq]) e.symm
        · exact hb4 q (by simp [hq]) p hp
      · unfold gD hlfL
        rw [List.map_map]
        exact .list List.mem_cons_self (DatAll.mono (fun p hp => List.mem_cons_of_mem _ hp) i9)
end
end
end
section
section
variable {w : World} {p : Program} {loose : List Str} {mean : ExcName → Option Value} {mg mb : Str → Option Value} {dp un : Nat} {gd : Option (List Code)} {cn : Str} {cs : Scope} {a : Addr} {ccd : Value} {cl : List (Str × Addr)} {outer : List Env} {A₀ : Around} {base h₀ : Heap} {L : Addr} {m : Str → Option Value} {news : List (Addr × Obj)} {s : Shared} {Q E : Value → Shared → Prop}

section
theorem kwT6_1 : True := by
  w_top off
  k_with_none
  (k_with "andf" => (first | assumption | exact And.left (by assumption) | exact And.left (And.right (by assumption)) | exact And.left (And.right (And.right (by assumption))) | exact And.left (And.right (And.right (And.right (by assumption)))) | exact And.left (And.right (And.right (And.right (And.right (by assumption))))) | exact And.left (And.right (And.right (And.right (And.right (And.right (by assumption)))))) | exact And.left (And.right (And.right (And.right (And.right (And.right (And.right (by assumption))))))) | exact And.left (And.right (And.right (And.right (And.right (And.right (And.right (And.right (by assumption)))))))) | exact And.left (And.right (And.right (And.right (And.right (And.right (And.right (And.right (And.right (by assumption))))))))) | exact And.left (And.right (And.right (And.right (And.right (And.right (And.right (And.right (And.right (And.right (by assumption)))))))))) | exact And.left (And.right (And.right (And.right (And.right (And.right (And.right (And.right (And.right (And.right (And.right (by assumption))))))))))) | exact And.left (And.right (And.right (And.right (And.right (And.right (And.right (And.right (And.right (And.right (And.right (And.right (by assumption)))))))))))) | exact And.left (And.right (And.right (And.right (And.right (And.right (And.right (And.right (And.right (And.right (And.right (And.right (And.right (by assumption))))))))))))) | exact And.left (And.right (And.right (And.right (And.right (And.right (And.right (And.right (And.right (And.right (And.right (And.right (And.right (And.right (by assumption))))))))))))))))
  (k_with "k_ne" => ((refine neN ?_; (try dsimp only); first | assumption | exact fun kwe9 => absurd kwe9.symm (by assumption) | exact ne_up1 | exact up_ne1 | exact ne_up2 | exact up_ne2 | exact ne_up3 | exact up_ne3 | exact ne_up4 | exact up_ne4 | exact ne_up5 | exact up_ne5 | exact ne_up6 | exact up_ne6 | exact ne_up7 | exact up_ne7 | exact Nat.ne_of_gt (by k_extra "andf") | exact Nat.ne_of_lt (by k_extra "andf") | omega)))
  (k_with "ktr_rel" => (first | exact List.mem_cons_self | ktr_member | (refine List.mem_cons_of_mem _ ?_; ktr_rel) | (refine List.mem_append.mpr (Or.inl ?_); ktr_rel) | (refine List.mem_append.mpr (Or.inr ?_); ktr_rel)))
  (k_with "lcg_sub" => ((intro kwp kwhp; (try simp only [List.mem_append, List.mem_cons, kwhp, or_true, true_or]))))
  (k_with "call ref" => (((with_reducible show wpAny _ _ (call (Value.ref 157) _) _ _ _); k_dflt (refine halved_spec (by k_asm) (by k_asm) (by k_asm) (by k_asm) (by k_asm) (by first | rfl | assumption) (by first | assumption | exact PlaneAt.mono (by assumption) (by lcg_sub)) (by assumption) (by assumption) (by ktr_room) (by ktr_units) ?_); intro kwx kwtl kwh kwtk kwF kwN kwB kwP; (try dsimp only); (try k_sweep))))
  (k_with "size_fits" => (((simp only [List.size_toArray, PySem.sizeLine_eq]); omega)))
  (k_with "ktr_enter" => ((refine code_defC (by k_asm) (by k_asm) (by k_asm) (by k_asm) (by k_asm) (by exact rfl) (by exact rfl) (by assumption) (by k_is) (by k_is) (by ktr_room) (by exact BindsTo.of_eq rfl) (by exact rfl) (by decide +kernel) ?_ (by exact rfl) (by exact rfl) (by exact rfl); k_whole; intro kwg kwL kwh kwtk kwcells kwFG kwF kwN kwY kwB kwX kwT kwl1; (try k_lt kwl1); k_cells kwY; (try simp only [List.cons_append, List.nil_append] at kwN); (try dsimp only); (try k_fold))))
  (k_with "k_all" => (first | assumption | (refine List.forall_mem_append.mpr ⟨(by k_all), (by k_all)⟩) | (intro kwp9 kwhp9; have kwh9 := (by assumption : ∀ p ∈ _, @LT.lt Nat _ p.1 _) kwp9 kwhp9; refine neN ?_; (try dsimp only at kwh9 ⊢); omega)))
  (k_with "exec For Tuple Call cons nil" => (((rename Fr _ _ _ _ => kwlF); refine' For_turns kwlF ?_; k_whole)))
  (k_with "exec Assign cons ListComp" => ((k_dflt (refine LCg.Assign_ListComp_U (F₀ := by k_asm) (by rfl) (by with_unfolding_all rfl) (by with_unfolding_all rfl) (by decide) (by rfl) (by decide) (by rfl) (by rfl) (by rfl) ?_))))
  (k_with "subscriptTail Name Constant ref int" => ((k_dflt (refine item_led (by k_asm) (by k_mem) (by decide) (by decide) (by assumption) ?_))))
  trivial
theorem levels_spec {x st : Addr} {Zp : List (Addr × Obj)} {sn : Nat} {sv : List Value} {S : List (Bool × Bool)} {mdl : Str} {bits : Int} {g : LV}
  (B : Below A₀ base outer h₀) (F : Fr h₀ L s.heap m) (X : (hd.heap_1 w.params).In h₀) (N : News h₀ L s.heap news) (T : Top p loose mean mg mb h₀) (hk : cs.kind = .function)
  (hP : PicAt Zp x mdl bits g) (hZp : ∀ p ∈ Zp, p ∈ news) (hS : StepsAt news sv S) (hst : (st, listOf sv.toArray sn) ∈ news) (ok : LvOk g) (hS3 : S.length < 100) (hdp : dp + 12 < recursionLimit) (hun : un + 100 < cLine)
  (ret : ∀ fa fv e tl h' tk', Fr h₀ L h' m → News h₀ L h' (news ++ tl) → Behind news tl → (fa, listOf fv.toArray e) ∈ tl → LevelsAt (Zp ++ tl) fv mdl bits (levels S g) → fv[S.length]? = some (.ref x) → Q (.ref fa) { s with heap := h', toks := tk' }) :
  wpAny (model PySem.Challenge.rw_ok0141_01.row.prog w) (ktrTop dp un gd cn cs L a ccd cl outer) (call (.ref 270) [.ref x, .ref st]) Q E s := by
  have hfill : PySem.Challenge.rw_ok0141_01 = PySem.Challenge.rw_ok0141_01 ∧ hd.heap_1 = hd.heap_1 := by k_fill; exact ⟨rfl, rfl⟩
  clear hfill
  refine wpAny_call ?_
  k_dflt ktr_enter
  k_steps
  (rename Fr _ _ _ _ => lF); (rename News _ _ _ _ => lN)
  refine krv_reversed (vs := sv) lF lN ⟨_, (lN (st, listOf sv.toArray sn) (by simp [hst])).1, rfl, sn, rfl⟩ ?_
  intro D h5 F5 N5 hD5
  refine wpAny_pyIter_revIter ⟨_, (N5 _ List.mem_cons_self).1, rfl, rfl⟩ ?_
  refine rev_loopM (LvG Zp S g x mdl bits) rfl F5 (rev_start N5) hst (fun p hp => Nat.ne_of_lt (hD5 p (rot3 hp))) ?_ ?_ ?_ ?_
  · exact behind3 (And.right (And.right (by assumption))) (by assumption) (by omega) (by omega)
  · exact lvg_start rfl (by assumption) (by assumption) hP ⟨by show @Ne Nat _ _; k_ne, by show @Ne Nat _ _; k_ne⟩ (by show @Ne Nat _ _; k_ne)
  · rintro i v m₁ tl h tk oD hi hv hb ⟨fa, fv, e, u, o1, o2, tl', rfl, rfl, ⟨v1, d1⟩, ⟨v2, d2⟩, hL, hx, ho, hne⟩ hD F6 N6
    simp only [adr_one, adr_two] at ho hne N6 hD hb
    obtain ⟨tq, nq, ⟨ac, dn⟩, hsq, rfl, hq⟩ := hS.ok _ v hv
    rw [hS.len] at hi hsq
    have hstep := levels_step (g := g) hi hsq
    have hx2 : 0 < fv.length := by rw [hL.len, levels_len]; omega
    have hfx := List.getElem?_eq_getElem hx2
    obtain ⟨x0, e0, hP0⟩ := hL.ok 0 (fv[0]'hx2) hfx
    rw [e0] at hfx
    have hx0 : fv[Int.toNat 0]? = some (.ref x0) := hfx
    have okT := LvOk.top (S := S.drop (S.length - i)) ok
    rw [top_at] at hP0
    obtain ⟨q, hqq⟩ : ∃ q, q = lvTop (levels (S.drop (S.length - i)) g) := ⟨_, rfl⟩
    rw [← hqq] at hP0 okT hstep
    obtain ⟨W, hW⟩ : ∃ W, W = (D, oD) :: (news ++ ((fa, listOf fv.toArray e) :: tl')) := ⟨_, rfl⟩
    have N7 := levels_perm N6
    rw [← hW] at N7
    have mW : ∀ p ∈ news ++ ((fa, listOf fv.toArray e) :: tl'), p ∈ W := fun p hp => hW ▸ List.mem_cons_of_mem _ hp
    have w1 := w_off hW (hD _ (List.mem_append_right _ (List.mem_cons_of_mem _ List.mem_cons_self))) (fun p hp => hb p hp _ (List.mem_cons_of_mem _ List.mem_cons_self)) (fun p hp => (ho p hp).1)
    have w2 := w_off hW (hD _ (List.mem_append_right _ (List.mem_cons_of_mem _ (List.mem_cons_of_mem _ List.mem_cons_self)))) (fun p hp => hb p hp _ (List.mem_cons_of_mem _ (List.mem_cons_of_mem _ List.mem_cons_self))) (fun p hp => (ho p hp).2)
    have mq := mW _ (List.mem_append_left _ hq)
    have mf := mW _ (List.mem_append_right _ List.mem_cons_self)
    refine (hP0.mono (fun p hp => mW p (by rcases List.mem_append.mp hp with h | h; exact List.mem_append_left _ (hZp p h); exact List.mem_append_right _ h))).elim ?_
    intro dx0 h1 t1 tm h2 t2 tb h3 t3 pl n0 vs0 ee m1 m2 m3 hPl
    refine (hP.mono (fun p hp => mW p (List.mem_append_left _ (hZp p hp)))).elim ?_
    intro dx9 h19 t19 tm9 h29 t29 tb9 h39 t39 pl9 n9 vs9 ee9 m19 m29 m39 hPl9
    clear N6
    have hvl : vs0.length = q.2.2.length := hPl.len
    k_steps
    refine LCg.CompSrc.ledger rfl (by assumption) (by assumption) (by k_mem) (by rw [List.size_toArray, hvl, sizeLine_eq]; have := okT.2.2.2.1; omega) ?_
    intro g5
    have sz : vs0.toArray.size = q.2.2.length := by rw [List.size_toArray, hvl]
    rw [sz]
    refine comp_go (n := q.2.2.length) [] [] (fun M => M = []) (fun j tl v => ∃ p, v = .ref p ∧ PlaneAt tl p (hlf q.1 ac) (hlf q.2.1 dn) (halvedG (q.2.2.getD j []) q.1 q.2.1 ac dn)) (fun M h => by rw [h]; rfl) (by simp) (fun _ _ _ _ k ⟨p, e, r⟩ => ⟨p, e, r.mono k⟩) ?_ ?_ ?_ rfl
    · rintro M tl9 rfl
      exact .inr ⟨_, List.mem_append_right _ (List.mem_append_left _ (List.mem_cons_of_mem _ (List.mem_cons_of_mem _ m3))), rfl, _, rfl⟩
    · rintro j w3 I oI C oC D3 ys m3' h6 tk6 E6 M Y hj hl3 hw3 rfl hYa hZY off hne3 hC hx3 F8 N8
      obtain ⟨pk, rfl, hpk⟩ := hPl.ok j w3 (by simpa using hw3)
      have hgw := okT.1
      have hgh := okT.2.1
      have hpY := hpk.mono (fun p hp => hZY p (List.mem_cons_of_mem _ (List.mem_cons_of_mem _ hp)))
      simp only [List.forall_mem_cons] at hZY
      refine ae3 hZY ?_
      clear hZY
      intro z1 z2 z3
      k_steps
      exact cend_app [] (by assumption) (by assumption) (by assumption) rfl ⟨_, rfl, by assumption⟩
    · rintro ys M tl9 hl3 rfl hb3 _ hR3
      intro D3 h6 tk6 F8 N8 off8
      simp only [List.nil_append, List.cons_append] at N8 off8
      k_steps
      (rename Fr _ _ _ _ => lF); (rename News _ _ _ _ => lN)
      refine kmk_add_lit (zs := _ :: fv) lF lN ⟨_, (lN _ List.mem_cons_self).1, rfl, 0, rfl⟩ ⟨_, (lN (fa, listOf fv.toArray e) (by simp [mf])).1, rfl, e, rfl⟩ rfl ?_ ?_
      · intro Dn h7 F9 N9 hlt9
        k_steps
        (rename Fr _ _ _ _ => lF3); (rename News _ _ _ _ => lN3)
        show RevEnd _ _ _ _ _ _ _ _
        refine levels_end lF3 lN3 hW hlt9 (by assumption) (by assumption) hb3 off8 hb hD ho hne ?_ ?_ ⟨_, by assumption⟩ ⟨_, by assumption⟩ ?_ ?_ hL hx hstep hl3 hR3
        · rfl
        · rfl
        · rfl
        · intro y n1 n2
          simp [n1, n2]
      · simp only [List.length_cons, List.length_nil, sizeLine_eq, hL.len, levels_len, List.length_drop]
        omega
  · rintro m₁ tl h tk hb ⟨fa, fv, e, u, o1, o2, tl', rfl, rfl, ⟨v1, d1⟩, ⟨v2, d2⟩, hL, hx, ho, hne⟩ F6 N6
    k_steps
    (rename News _ _ _ _ => N9)
    have e0 : S.drop (S.length - sv.length) = S := by rw [hS.len]; simp
    rw [e0] at hL
    refine ret fa fv e _ _ _ (by assumption) N9 hb List.mem_cons_self (hL.mono sub_abc) (by rw [← hS.len]; exact hx)
end
end
end
section
section
variable {w : World} {p : Program} {loose : List Str} {mean : ExcName → Option Value} {mg mb : Str → Option Value} {dp un : Nat} {gd : Option (List Code)} {cn : Str} {cs : Scope} {a : Addr} {ccd : Value} {cl : List (Str × Addr)} {outer : List Env} {A₀ : Around} {base h₀ : Heap} {L : Addr} {m : Str → Option Value} {news : List (Addr × Obj)} {s : Shared} {Q E : Value → Shared → Prop}
section
theorem kwC46_1 : True := by
  w_top off
  k_with_none
  (k_with "andf" => (first | assumption | exact And.left (by assumption) | exact And.left (And.right (by assumption)) | exact And.left (And.right (And.right (by assumption))) | exact And.left (And.right (And.right (And.right (by assumption)))) | exact And.left (And.right (And.right (And.right (And.right (by assumption))))) | exact And.left (And.right (And.right (And.right (And.right (And.right (by assumption)))))) | exact And.left (And.right (And.right (And.right (And.right (And.right (And.right (by assumption))))))) | exact And.left (And.right (And.right (And.right (And.right (And.right (And.right (And.right (by assumption)))))))) | exact And.left (And.right (And.right (And.right (And.right (And.right (And.right (And.right (And.right (by assumption))))))))) | exact And.left (And.right (And.right (And.right (And.right (And.right (And.right (And.right (And.right (And.right (by assumption)))))))))) | exact And.left (And.right (And.right (And.right (And.right (And.right (And.right (And.right (And.right (And.right (And.right (by assumption))))))))))) | exact And.left (And.right (And.right (And.right (And.right (And.right (And.right (And.right (And.right (And.right (And.right (And.right (by assumption)))))))))))) | exact And.left (And.right (And.right (And.right (And.right (And.right (And.right (And.right (And.right (And.right (And.right (And.right (And.right (by assumption))))))))))))) | exact And.left (And.right (And.right (And.right (And.right (And.right (And.right (And.right (And.right (And.right (And.right (And.right (And.right (And.right (by assumption))))))))))))))))
  (k_with "k_ne" => ((refine neN ?_; (try dsimp only); first | assumption | exact fun kwe9 => absurd kwe9.symm (by assumption) | exact ne_up1 | exact up_ne1 | exact ne_up2 | exact up_ne2 | exact ne_up3 | exact up_ne3 | exact ne_up4 | exact up_ne4 | exact ne_up5 | exact up_ne5 | exact ne_up6 | exact up_ne6 | exact ne_up7 | exact up_ne7 | exact Nat.ne_of_gt (by k_extra "andf") | exact Nat.ne_of_lt (by k_extra "andf") | omega)))
  (k_with "ktr_rel" => (first | exact List.mem_cons_self | ktr_member | (refine List.mem_cons_of_mem _ ?_; ktr_rel) | (refine List.mem_append.mpr (Or.inl ?_); ktr_rel) | (refine List.mem_append.mpr (Or.inr ?_); ktr_rel)))
  (k_with "size_fits" => (((simp only [List.size_toArray, PySem.sizeLine_eq]); omega)))
  (k_with "call builtin:dict.get" => ((walk_plain_pass; (with_unfolding_all refine KTD.get2_text (by kt_tab) ?_); refine stop_in ?_)))
  (k_with "compareOp In int ref" => ((refine stop_in ?_)))
  trivial
theorem quant_spec {mdl : Str} {tm tp : Tok} {pl : Nat}
  (B : Below A₀ base outer h₀) (F : Fr h₀ L s.heap m) (X : (hd.heap_1 w.params).In h₀) (N : News h₀ L s.heap news) (T : Top p loose mean mg mb h₀) (hk : cs.kind = .function)
  (hpl : pl < 100) (hdp : dp + 3 < recursionLimit) (hun : un + 20 < cLine)
  (ret : ∀ t h' tk', Fr h₀ L h' m → News h₀ L h' news → Q (.int (slotOf mdl pl) t) { s with heap := h', toks := tk' }) :
  wpAny (model PySem.Challenge.rw_ok0141_01.row.prog w) (ktrTop dp un gd cn cs L a ccd cl outer) (call (.ref 31) [.str mdl tm, .int pl tp]) Q E s := by
  have hfill : PySem.Challenge.rw_ok0141_01 = PySem.Challenge.rw_ok0141_01 ∧ hd.heap_1 = hd.heap_1 := by k_fill; exact ⟨rfl, rfl⟩
  clear hfill
  refine wpAny_call ?_
  k_dflt ktr_enter
  k_steps
  refine stop_out ?_
  refine each_cons (fun e1 => ?_) fun e1 => each_cons (fun e2 => ?_) fun e2 => each_nil ?_
  · intro a vs hT hF
    obtain ⟨t1, t2, rfl⟩ := flats_two hF
    k_steps
    refine stop_out ?_
    (rename Fr _ _ _ _ => F9)
    refine in_tuple_ints (ns := [1, 2]) (isTup_up hT F9.keep) (.cons _ _ (.cons _ _ .nil)) ?_
    have e9 : ([1, 2] : List Int).any (· == (pl : Int)) = decide (pl = 1 ∨ pl = 2) := by
      simp only [List.any_cons, List.any_nil, Bool.or_false]
      by_cases h1 : pl = 1
      · subst h1; rfl
      · by_cases h2 : pl = 2
        · subst h2; rfl
        · simp only [h1, h2, or_self, decide_false, Bool.or_eq_false_iff, beq_eq_false_iff_ne]
          omega
    rw [e9]
    by_cases h12 : pl = 1 ∨ pl = 2
    · rw [decide_eq_true h12]
      k_steps
      exact q_int (ret _ _ _ (by assumption) (news_tail (by assumption))) (by rw [slotOf, if_pos ⟨.inl (by rw [e1]; decide), h12⟩])
    · rw [decide_eq_false h12]
      k_steps
      exact q_int (ret _ _ _ (by assumption) (news_tail (by assumption))) (by rw [slotOf, if_neg fun h => h12 h.2])
  · intro a vs hT hF
    obtain ⟨t1, t2, rfl⟩ := flats_two hF
    k_steps
    refine stop_out ?_
    (rename Fr _ _ _ _ => F9)
    refine in_tuple_ints (ns := [1, 2]) (isTup_up hT F9.keep) (.cons _ _ (.cons _ _ .nil)) ?_
    have e9 : ([1, 2] : List Int).any (· == (pl : Int)) = decide (pl = 1 ∨ pl = 2) := by
      simp only [List.any_cons, List.any_nil, Bool.or_false]
      by_cases h1 : pl = 1
      · subst h1; rfl
      · by_cases h2 : pl = 2
        · subst h2; rfl
        · simp only [h1, h2, or_self, decide_false, Bool.or_eq_false_iff, beq_eq_false_iff_ne]
          omega
    rw [e9]
    by_cases h12 : pl = 1 ∨ pl = 2
    · rw [decide_eq_true h12]
      k_steps
      exact q_int (ret _ _ _ (by assumption) (news_tail (by assumption))) (by rw [slotOf, if_pos ⟨.inr (by rw [e2]; decide), h12⟩])
    · rw [decide_eq_false h12]
      k_steps
      exact q_int (ret _ _ _ (by assumption) (news_tail (by assumption))) (by rw [slotOf, if_neg fun h => h12 h.2])
  · k_steps
    refine stop_out ?_
    (rename Fr _ _ _ _ => F9); (rename News _ _ _ _ => N9)
    refine in_tuple_ints (ns := []) ⟨_, (N9 _ List.mem_cons_self).1, rfl, _, rfl⟩ .nil ?_
    rw [List.any_nil]
    k_steps
    exact q_int (ret _ _ _ (by assumption) (news_tail (by assumption))) (by rw [slotOf, if_neg fun h => h.1.elim (fun h => e1 (by rw [h]; decide)) fun h => e2 (by rw [h]; decide)])
end
section
theorem kwC46_2 : True := by
  w_top off
  k_with_none
  (k_with "andf" => (first | assumption | exact And.left (by assumption) | exact And.left (And.right (by assumption)) | exact And.left (And.right (And.right (by assumption))) | exact And.left (And.right (And.right (And.right (by assumption)))) | exact And.left (And.right (And.right (And.right (And.right (by assumption))))) | exact And.left (And.right (And.right (And.right (And.right (And.right (by assumption)))))) | exact And.left (And.right (And.right (And.right (And.right (And.right (And.right (by assumption))))))) | exact And.left (And.right (And.right (And.right (And.right (And.right (And.right (And.right (by assumption)))))))) | exact And.left (And.right (And.right (And.right (And.right (And.right (And.right (And.right (And.right (by assumption))))))))) | exact And.left (And.right (And.right (And.right (And.right (And.right (And.right (And.right (And.right (And.right (by assumption)))))))))) | exact And.left (And.right (And.right (And.right (And.right (And.right (And.right (And.right (And.right (And.right (And.right (by assumption))))))))))) | exact And.left (And.right (And.right (And.right (And.right (And.right (And.right (And.right (And.right (And.right (And.right (And.right (by assumption)))))))))))) | exact And.left (And.right (And.right (And.right (And.right (And.right (And.right (And.right (And.right (And.right (And.right (And.right (And.right (by assumption))))))))))))) | exact And.left (And.right (And.right (And.right (And.right (And.right (And.right (And.right (And.right (And.right (And.right (And.right (And.right (And.right (by assumption))))))))))))))))
  (k_with "k_ne" => ((refine neN ?_; (try dsimp only); first | assumption | exact fun kwe9 => absurd kwe9.symm (by assumption) | exact ne_up1 | exact up_ne1 | exact ne_up2 | exact up_ne2 | exact ne_up3 | exact up_ne3 | exact ne_up4 | exact up_ne4 | exact ne_up5 | exact up_ne5 | exact ne_up6 | exact up_ne6 | exact ne_up7 | exact up_ne7 | exact Nat.ne_of_gt (by k_extra "andf") | exact Nat.ne_of_lt (by k_extra "andf") | omega)))
  (k_with "ktr_rel" => (first | exact List.mem_cons_self | ktr_member | (refine List.mem_cons_of_mem _ ?_; ktr_rel) | (refine List.mem_append.mpr (Or.inl ?_); ktr_rel) | (refine List.mem_append.mpr (Or.inr ?_); ktr_rel)))
  (k_with "size_fits" => (((simp only [List.size_toArray, PySem.sizeLine_eq]); omega)))
  trivial
def lvKind (k : Str) : Str := if k = ("progressive" : Str) then ("progressive" : Str) else ("extended" : Str)
theorem lkind_spec {x : Addr} {kd mdl : Str} {sd : Int}
  (B : Below A₀ base outer h₀) (F : Fr h₀ L s.heap m) (X : (hd.heap_1 w.params).In h₀) (N : News h₀ L s.heap news) (T : Top p loose mean mg mb h₀) (hk : cs.kind = .function)
  (hS : SetAt news x kd mdl sd) (hkd : kd = ("baseline" : Str) ∨ kd = ("extended" : Str) ∨ kd = ("progressive" : Str)) (hdp : dp + 3 < recursionLimit) (hun : un + 20 < cLine)
  (ret : ∀ t h' tk', Fr h₀ L h' m → News h₀ L h' news → Q (.str (lvKind kd) t) { s with heap := h', toks := tk' }) :
  wpAny (model PySem.Challenge.rw_ok0141_01.row.prog w) (ktrTop dp un gd cn cs L a ccd cl outer) (call (.ref 258) [.ref x]) Q E s := by
  have hfill : PySem.Challenge.rw_ok0141_01 = PySem.Challenge.rw_ok0141_01 ∧ hd.heap_1 = hd.heap_1 := by k_fill; exact ⟨rfl, rfl⟩
  clear hfill
  refine hS.elim ?_
  clear hS
  intro dx h1 t1 k1 h2 t2 k2 h3 t3 h4 t4 k4 h5 t5 h6 t6 h7 t7 k7 h8 t8 k8 n a1 a2
  refine wpAny_call ?_
  k_dflt ktr_enter
  rcases hkd with rfl | rfl | rfl
  all_goals
    k_steps
    exact q_str (ret _ _ _ (by assumption) (news_tail (by assumption))) (by decide)
end
end
end
section
section
variable {w : World} {p : Program} {loose : List Str} {mean : ExcName → Option Value} {mg mb : Str → Option Value} {dp un : Nat} {gd : Option (List Code)} {cn : Str} {cs : Scope} {a : Addr} {ccd : Value} {cl : List (Str × Addr)} {outer : List Env} {A₀ : Around} {base h₀ : Heap} {L : Addr} {m : Str → Option Value} {news : List (Addr × Obj)} {s : Shared} {Q E : Value → Shared → Prop}
section
theorem kwC45_1 : True := by
  w_top off
  k_with_none
  (k_with "andf" => (first | assumption | exact And.left (by assumption) | exact And.left (And.right (by assumption)) | exact And.left (And.right (And.right (by assumption))) | exact And.left (And.right (And.right (And.right (by assumption)))) | exact And.left (And.right (And.right (And.right (And.right (by assumption))))) | exact And.left (And.right (And.right (And.right (And.right (And.right (by assumption)))))) | exact And.left (And.right (And.right (And.right (And.right (And.right (And.right (by assumption))))))) | exact And.left (And.right (And.right (And.right (And.right (And.right (And.right (And.right (by assumption)))))))) | exact And.left (And.right (And.right (And.right (And.right (And.right (And.right (And.right (And.right (by assumption))))))))) | exact And.left (And.right (And.right (And.right (And.right (And.right (And.right (And.right (And.right (And.right (by assumption)))))))))) | exact And.left (And.right (And.right (And.right (And.right (And.right (And.right (And.right (And.right (And.right (And.right (by assumption))))))))))) | exact And.left (And.right (And.right (And.right (And.right (And.right (And.right (And.right (And.right (And.right (And.right (And.right (by assumption)))))))))))) | exact And.left (And.right (And.right (And.right (And.right (And.right (And.right (And.right (And.right (And.right (And.right (And.right (And.right (by assumption))))))))))))) | exact And.left (And.right (And.right (And.right (And.right (And.right (And.right (And.right (And.right (And.right (And.right (And.right (And.right (And.right (by assumption))))))))))))))))
  (k_with "k_ne" => ((refine neN ?_; (try dsimp only); first | assumption | exact fun kwe9 => absurd kwe9.symm (by assumption) | exact ne_up1 | exact up_ne1 | exact ne_up2 | exact up_ne2 | exact ne_up3 | exact up_ne3 | exact ne_up4 | exact up_ne4 | exact ne_up5 | exact up_ne5 | exact ne_up6 | exact up_ne6 | exact ne_up7 | exact up_ne7 | exact Nat.ne_of_gt (by k_extra "andf") | exact Nat.ne_of_lt (by k_extra "andf") | omega)))
  (k_with "ktr_rel" => (first | exact List.mem_cons_self | ktr_member | (refine List.mem_cons_of_mem _ ?_; ktr_rel) | (refine List.mem_append.mpr (Or.inl ?_); ktr_rel) | (refine List.mem_append.mpr (Or.inr ?_); ktr_rel)))
  (k_with "size_fits" => (((simp only [List.size_toArray, PySem.sizeLine_eq]); omega)))
  trivial
theorem urn_spec {l : Addr} {vs : List Value} {ns : List Int}
  (B : Below A₀ base outer h₀) (F : Fr h₀ L s.heap m) (X : (hd.heap_1 w.params).In h₀) (N : News h₀ L s.heap news) (T : Top p loose mean mg mb h₀) (hk : cs.kind = .function)
  (hl : h₀.IsList l vs.toArray) (hI : IntsAre vs ns) (h63 : ¬ 63 < ns.length) (hdp : dp + 3 < recursionLimit) (hun : un + 20 < cLine)
  (ret : ∀ u x0 x1 t0 t1 nn h' tk', 0 ≤ x0 → 0 ≤ x1 → x1 < 2147490000 → Fr h₀ L h' m → News h₀ L h' ((u, listOf #[.int x0 t0, .int x1 t1] nn) :: news) → (∀ p ∈ news, p.1 < u) → Q (.ref u) { s with heap := h', toks := tk' }) :
  wpAny (model PySem.Challenge.rw_ok0141_01.row.prog w) (ktrTop dp un gd cn cs L a ccd cl outer) (call (.ref 300) [.ref l]) Q E s := by
  have hfill : PySem.Challenge.rw_ok0141_01 = PySem.Challenge.rw_ok0141_01 ∧ hd.heap_1 = hd.heap_1 := by k_fill; exact ⟨rfl, rfl⟩
  clear hfill
  have hlen := hI.length
  refine wpAny_call ?_
  k_dflt ktr_enter
  (rename Fr h₀ _ _ _ => FG9)
  have hl9 := isList_up hl FG9.keep
  k_steps
  all_goals
    (rename News _ _ _ _ => N9)
    refine ret _ _ _ _ _ _ _ _ ?_ (urn_b h63).1 (urn_b h63).2 (by assumption) N9 (by assumption)
    first | exact Int.le_refl _ | exact Int.le_trans pow_nn (by assumption)
end
end
end
section
section
variable {w : World} {p : Program} {loose : List Str} {mean : ExcName → Option Value} {mg mb : Str → Option Value} {dp un : Nat} {gd : Option (List Code)} {cn : Str} {cs : Scope} {a : Addr} {ccd : Value} {cl : List (Str × Addr)} {outer : List Env} {A₀ : Around} {base h₀ : Heap} {L : Addr} {m : Str → Option Value} {news : List (Addr × Obj)} {s : Shared} {Q E : Value → Shared → Prop}


section
theorem kwT7_1 : True := by
  w_top off
  k_with_none
  (k_with "andf" => (first | assumption | exact And.left (by assumption) | exact And.left (And.right (by assumption)) | exact And.left (And.right (And.right (by assumption))) | exact And.left (And.right (And.right (And.right (by assumption)))) | exact And.left (And.right (And.right (And.right (And.right (by assumption))))) | exact And.left (And.right (And.right (And.right (And.right (And.right (by assumption)))))) | exact And.left (And.right (And.right (And.right (And.right (And.right (And.right (by assumption))))))) | exact And.left (And.right (And.right (And.right (And.right (And.right (And.right (And.right (by assumption)))))))) | exact And.left (And.right (And.right (And.right (And.right (And.right (And.right (And.right (And.right (by assumption))))))))) | exact And.left (And.right (And.right (And.right (And.right (And.right (And.right (And.right (And.right (And.right (by assumption)))))))))) | exact And.left (And.right (And.right (And.right (And.right (And.right (And.right (And.right (And.right (And.right (And.right (by assumption))))))))))) | exact And.left (And.right (And.right (And.right (And.right (And.right (And.right (And.right (And.right (And.right (And.right (And.right (by assumption)))))))))))) | exact And.left (And.right (And.right (And.right (And.right (And.right (And.right (And.right (And.right (And.right (And.right (And.right (And.right (by assumption))))))))))))) | exact And.left (And.right (And.right (And.right (And.right (And.right (And.right (And.right (And.right (And.right (And.right (And.right (And.right (And.right (by assumption))))))))))))))))
  (k_with "k_ne" => ((refine neN ?_; (try dsimp only); first | assumption | exact fun kwe9 => absurd kwe9.symm (by assumption) | exact ne_up1 | exact up_ne1 | exact ne_up2 | exact up_ne2 | exact ne_up3 | exact up_ne3 | exact ne_up4 | exact up_ne4 | exact ne_up5 | exact up_ne5 | exact ne_up6 | exact up_ne6 | exact ne_up7 | exact up_ne7 | exact Nat.ne_of_gt (by k_extra "andf") | exact Nat.ne_of_lt (by k_extra "andf") | omega)))
  (k_with "ktr_rel" => (first | exact List.mem_cons_self | ktr_member | (refine List.mem_cons_of_mem _ ?_; ktr_rel) | (refine List.mem_append.mpr (Or.inl ?_); ktr_rel) | (refine List.mem_append.mpr (Or.inr ?_); ktr_rel)))
  (k_with "call ref" => (((with_reducible show wpAny _ _ (call (Value.ref 31) _) _ _ _); k_dflt (refine quant_spec (by k_asm) (by k_asm) (by k_asm) (by k_asm) (by k_asm) (by first | rfl | assumption) (by omega) (by ktr_room) (by ktr_units) ?_); intro kwt kwh kwtk kwF kwN; (try dsimp only); (try k_sweep))))
  (k_with "lcg_sub" => ((intro kwp kwhp; (try simp only [List.mem_append, List.mem_cons, kwhp, or_true, true_or]))))
  (k_with "call ref" => (((with_reducible show wpAny _ _ (call (Value.ref 258) _) _ _ _); k_dflt (refine lkind_spec (by k_asm) (by k_asm) (by k_asm) (by k_asm) (by k_asm) (by first | rfl | assumption) (by first | assumption | exact SetAt.mono (by assumption) (by lcg_sub)) (by assumption) (by ktr_room) (by ktr_units) ?_); intro kwt kwh kwtk kwF kwN; (try dsimp only); (try k_sweep))))
  (k_with "k_all" => (assumption))
  (k_with "size_fits" => (((simp only [List.size_toArray, PySem.sizeLine_eq]); omega)))
  (k_with "exec For Name Call cons nil" => (((rename Fr _ _ _ _ => kwlF); (with_unfolding_all refine For_invVF kwlF (by exact rfl) (by exact rfl) ?_; k_whole))))
  (k_with "pyIter ref" => (((with_reducible show wpAny _ _ (pyIter (Value.ref _)) (fun it s₂ => LoopAtV _ _ _ _ _ ("place" : Str) _ _ _ it s₂) _ _); refine stop_in ?_)))
  (k_with "dictfold_shaped2" => ((repeat' (first | exact Agree.ofT | (refine Agree.set (by decide) ?_) | refine Agree.nilc ?_ | (refine Agree.ofD (by decide) ?_)))))
  (k_with "call builtin:len" => (((with_reducible show wpAny _ _ (call (Value.builtin "len") [Value.ref _]) _ _ _); k_dflt (refine len_led (by k_asm) (by k_mem) (by assumption) (by omega) ?_; k_whole))))
  (k_with "subscriptTail" => ((k_dflt (refine item_led (by k_asm) (by k_mem) (by decide) (by decide) (by assumption) ?_))))
  trivial
theorem frame_spec {x sx : Addr} {kd mdl : Str} {bits sd : Int} {wd hg : Nat} {gs : List (List (List Int))}
  (B : Below A₀ base outer h₀) (F : Fr h₀ L s.heap m) (X : (hd.heap_1 w.params).In h₀) (N : News h₀ L s.heap news) (T : Top p loose mean mg mb h₀) (hk : cs.kind = .function)
  (hP : PicAt news x mdl bits (wd, hg, gs)) (hS : SetAt news sx kd mdl sd) (hkd : kd = ("baseline" : Str) ∨ kd = ("extended" : Str) ∨ kd = ("progressive" : Str)) (hg0 : 0 < gs.length) (hg9 : gs.length < 100) (hdp : dp + 8 < recursionLimit) (hun : un + 80 < cLine)
  (ret : ∀ fr tl h' tk', Fr h₀ L h' m → News h₀ L h' (news ++ tl) → Behind news tl → FrameAt tl fr (lvKind kd) bits wd hg gs.length mdl sd → Q (.ref fr) { s with heap := h', toks := tk' }) :
  wpAny (model PySem.Challenge.rw_ok0141_01.row.prog w) (ktrTop dp un gd cn cs L a ccd cl outer) (call (.ref 265) [.ref x, .ref sx]) Q E s := by
  have hfill : PySem.Challenge.rw_ok0141_01 = PySem.Challenge.rw_ok0141_01 ∧ hd.heap_1 = hd.heap_1 := by k_fill; exact ⟨rfl, rfl⟩
  clear hfill
  refine hP.elim ?_
  intro dx9 h19 t19 tm9 h29 t29 tb9 h39 t39 pl9 n9 vs9 ee9 m19 m29 m39 hPl9
  have hvl : vs9.length = gs.length := hPl9.len
  have hv0 : 0 < vs9.length := by omega
  have hfx := List.getElem?_eq_getElem hv0
  obtain ⟨p0, e0, hp0⟩ := hPl9.ok 0 (vs9[0]'hv0) hfx
  rw [e0] at hfx
  have hx0 : vs9[Int.toNat 0]? = some (.ref p0) := hfx
  refine wpAny_call ?_
  k_dflt ktr_enter
  k_steps
  refine stop_out ?_
  refine build_range0 (n := gs.length) (fun j tl v => CompAt tl v mdl j) [] (fun _ _ _ _ k r => r.mono k)
    rfl (by assumption) (small_nat (by omega)) (size_nat _) (by assumption) (by assumption) (allLt_of (by assumption)) ?_ ?_
  · intro y ty vs e Y u h tk hy hl hYr hZY F1 N1
    have hPY := hP.mono hZY
    have hSY := hS.mono hZY
    refine hPY.elim ?_
    intro dx h1 t1 tm h2 t2 tb h3 t3 pl n vs0 ee m1 m2 m3 hPl
    refine hSY.elim ?_
    intro dsx g1 w1 k1 g2 w2 k2 g3 w3 g4 w4 k4 g5 w5 g6 w6 g7 w7 k7 g8 w8 k8 gn a1 a2
    k_steps
    refine bend0_two (by assumption) (by assumption) (by assumption) (by assumption) ?_ ?_
    · dictfold_shaped2
    · exact ⟨_, _, _, _, _, _, _, _, _, _, _, _, _, _, _, rfl, List.mem_cons_self, List.mem_cons_of_mem _ List.mem_cons_self⟩
  · intro vs e tl u h tk hl F1 N1 o1 o2 hR
    have hPY := hP.mono (Z' := news ++ tl) (fun p hp => List.mem_append_left _ hp)
    have hSY := hS.mono (Z' := news ++ tl) (fun p hp => List.mem_append_left _ hp)
    refine hS.elim ?_
    intro dsx g1 w1 k1 g2 w2 k2 g3 w3 g4 w4 k4 g5 w5 g6 w6 g7 w7 k7 g8 w8 k8 gn a1 a2
    refine hp0.elim ?_
    intro dq hh1 tt1 hh2 tt2 hh3 tt3 nq tw th vr hq hdq hvr okq
    k_steps
    obtain ⟨NA, NB⟩ := made3 (by assumption) (by assumption) (And.left (b := AllLt _ (news ++ tl)) (by assumption)) (by assumption) o2
    exact ret _ _ _ _ (by assumption) NA NB ⟨_, _, _, _, _, _, _, _, _, _, _, _, _, _, _, _, _, _, _, _, _, vs, List.mem_cons_self, List.mem_cons_of_mem _ List.mem_cons_self, List.mem_cons_of_mem _ (List.mem_cons_of_mem _ List.mem_cons_self), hl, fun j v hv => (hR j v hv).mono fun p hp => by simp [hp]⟩
end
end
end
section
section
variable {w : World} {p : Program} {loose : List Str} {mean : ExcName → Option Value} {mg mb : Str → Option Value} {dp un : Nat} {gd : Option (List Code)} {cn : Str} {cs : Scope} {a : Addr} {ccd : Value} {cl : List (Str × Addr)} {outer : List Env} {A₀ : Around} {base h₀ : Heap} {L : Addr} {m : Str → Option Value} {news : List (Addr × Obj)} {s : Shared} {Q E : Value → Shared → Prop}
section
theorem kwT8_1 : True := by
  w_top off
  k_with_none
  (k_with "andf" => (first | assumption | exact And.left (by assumption) | exact And.left (And.right (by assumption)) | exact And.left (And.right (And.right (by assumption))) | exact And.left (And.right (And.right (And.right (by assumption)))) | exact And.left (And.right (And.right (And.right (And.right (by assumption))))) | exact And.left (And.right (And.right (And.right (And.right (And.right (by assumption)))))) | exact And.left (And.right (And.right (And.right (And.right (And.right (And.right (by assumption))))))) | exact And.left (And.right (And.right (And.right (And.right (And.right (And.right (And.right (by assumption)))))))) | exact And.left (And.right (And.right (And.right (And.right (And.right (And.right (And.right (And.right (by assumption))))))))) | exact And.left (And.right (And.right (And.right (And.right (And.right (And.right (And.right (And.right (And.right (by assumption)))))))))) | exact And.left (And.right (And.right (And.right (And.right (And.right (And.right (And.right (And.right (And.right (And.right (by assumption))))))))))) | exact And.left (And.right (And.right (And.right (And.right (And.right (And.right (And.right (And.right (And.right (And.right (And.right (by assumption)))))))))))) | exact And.left (And.right (And.right (And.right (And.right (And.right (And.right (And.right (And.right (And.right (And.right (And.right (And.right (by assumption))))))))))))) | exact And.left (And.right (And.right (And.right (And.right (And.right (And.right (And.right (And.right (And.right (And.right (And.right (And.right (And.right (by assumption))))))))))))))))
  (k_with "k_ne" => ((refine neN ?_; (try dsimp only); first | assumption | exact fun kwe9 => absurd kwe9.symm (by assumption) | exact ne_up1 | exact up_ne1 | exact ne_up2 | exact up_ne2 | exact ne_up3 | exact up_ne3 | exact ne_up4 | exact up_ne4 | exact ne_up5 | exact up_ne5 | exact ne_up6 | exact up_ne6 | exact ne_up7 | exact up_ne7 | exact Nat.ne_of_gt (by k_extra "andf") | exact Nat.ne_of_lt (by k_extra "andf") | omega)))
  (k_with "ktr_rel" => (first | exact List.mem_cons_self | ktr_member | (refine List.mem_cons_of_mem _ ?_; ktr_rel) | (refine List.mem_append.mpr (Or.inl ?_); ktr_rel) | (refine List.mem_append.mpr (Or.inr ?_); ktr_rel)))
  (k_with "size_fits" => (((simp only [List.size_toArray, PySem.sizeLine_eq]); omega)))
  (k_with "ktr_enter" => ((refine code_def (by k_asm) (by k_asm) (by k_asm) (by k_asm) (by k_asm) (by exact rfl) (by exact rfl) (by assumption) (by k_is) (by k_is) (by ktr_room) (by exact binds_K (by k_in) rfl (by k_is) rfl rfl rfl) (by exact locs rfl) ?_ (by exact rfl) (by exact rfl) (by exact rfl) (by decide); k_whole; intro kwg kwL kwh kwFG kwF kwN kwB kwX kwT; (try dsimp only); (try k_fold))))
  trivial
theorem notin_known {prog : Program} {w : World} {A : Around} {E : Value → Shared → Prop} {s : Shared} {t : Addr} {items : Array Value} {ys : List Str} {x : Str} {u : Tok} {Q : Value → Shared → Prop} (ht : IsTup s.heap t items) (hi : StrsAre items.toList ys) (hx : ys.any (· == x) = true)
    (h : Q (.bool false) s) : wpAny (model prog w) A (compareOp .NotIn (.str x u) (.ref t)) Q E s := notin_tuple_strs ht hi (by rw [hx]; exact h)
theorem kwT8_2 : True := by
  w_top off
  k_with_none
  (k_with "andf" => (first | assumption | exact And.left (by assumption) | exact And.left (And.right (by assumption)) | exact And.left (And.right (And.right (by assumption))) | exact And.left (And.right (And.right (And.right (by assumption)))) | exact And.left (And.right (And.right (And.right (And.right (by assumption))))) | exact And.left (And.right (And.right (And.right (And.right (And.right (by assumption)))))) | exact And.left (And.right (And.right (And.right (And.right (And.right (And.right (by assumption))))))) | exact And.left (And.right (And.right (And.right (And.right (And.right (And.right (And.right (by assumption)))))))) | exact And.left (And.right (And.right (And.right (And.right (And.right (And.right (And.right (And.right (by assumption))))))))) | exact And.left (And.right (And.right (And.right (And.right (And.right (And.right (And.right (And.right (And.right (by assumption)))))))))) | exact And.left (And.right (And.right (And.right (And.right (And.right (And.right (And.right (And.right (And.right (And.right (by assumption))))))))))) | exact And.left (And.right (And.right (And.right (And.right (And.right (And.right (And.right (And.right (And.right (And.right (And.right (by assumption)))))))))))) | exact And.left (And.right (And.right (And.right (And.right (And.right (And.right (And.right (And.right (And.right (And.right (And.right (And.right (by assumption))))))))))))) | exact And.left (And.right (And.right (And.right (And.right (And.right (And.right (And.right (And.right (And.right (And.right (And.right (And.right (And.right (by assumption))))))))))))))))
  (k_with "k_ne" => ((refine neN ?_; (try dsimp only); first | assumption | exact fun kwe9 => absurd kwe9.symm (by assumption) | exact ne_up1 | exact up_ne1 | exact ne_up2 | exact up_ne2 | exact ne_up3 | exact up_ne3 | exact ne_up4 | exact up_ne4 | exact ne_up5 | exact up_ne5 | exact ne_up6 | exact up_ne6 | exact ne_up7 | exact up_ne7 | exact Nat.ne_of_gt (by k_extra "andf") | exact Nat.ne_of_lt (by k_extra "andf") | omega)))
  (k_with "ktr_rel" => (first | exact List.mem_cons_self | ktr_member | (refine List.mem_cons_of_mem _ ?_; ktr_rel) | (refine List.mem_append.mpr (Or.inl ?_); ktr_rel) | (refine List.mem_append.mpr (Or.inr ?_); ktr_rel)))
  (k_with "size_fits" => (((simp only [List.size_toArray, PySem.sizeLine_eq]); omega)))
  (k_with "ktr_enter" => ((refine code_def (by k_asm) (by k_asm) (by k_asm) (by k_asm) (by k_asm) (by exact rfl) (by exact rfl) (by assumption) (by k_is) (by k_is) (by ktr_room) (by exact binds_K (by k_in) rfl (by k_is) rfl rfl rfl) (by exact locs rfl) ?_ (by exact rfl) (by exact rfl) (by exact rfl) (by decide); k_whole; intro kwg kwL kwh kwFG kwF kwN kwB kwX kwT; (try dsimp only); (try k_fold))))
  (k_with "compareOp NotIn str ref" => (((with_unfolding_all refine notin_known (by exact kun_topT (by k_asm) (by k_asm) (by k_is)) (by kde_strs) (by rcases hkd with rfl | rfl | rfl | rfl | rfl <;> rfl) ?_; k_whole))))
  trivial
def Kinds (k : Str) : Prop := k = ("baseline" : Str) ∨ k = ("extended" : Str) ∨ k = ("progressive" : Str) ∨ k = ("arith" : Str) ∨ k = ("arith progressive" : Str)
theorem set_spec {kd mdl : Str} {sd : Int} {tk1 tk2 tk4 tk7 tk8 : Tok}
  (B : Below A₀ base outer h₀) (F : Fr h₀ L s.heap m) (X : (hd.heap_1 w.params).In h₀) (N : News h₀ L s.heap news) (T : Top p loose mean mg mb h₀) (hk : cs.kind = .function)
  (hkd : Kinds kd) (hdp : dp + 3 < recursionLimit) (hun : un + 40 < cLine)
  (ret : ∀ x tl h' tk', Fr h₀ L h' m → News h₀ L h' (news ++ tl) → Behind news tl → SetAt tl x kd mdl sd → Q (.ref x) { s with heap := h', toks := tk' }) :
  wpAny (model PySem.Challenge.rw_ok0141_01.row.prog w) (ktrTop dp un gd cn cs L a ccd cl outer) (call (.ref 289) [.str kd tk1, .int 75 tk2, .none, .int 0 tk4, .bool false, .none, .int sd tk7, .str mdl tk8]) Q E s := by
  have hfill : PySem.Challenge.rw_ok0141_01 = PySem.Challenge.rw_ok0141_01 ∧ hd.heap_1 = hd.heap_1 := by k_fill; exact ⟨rfl, rfl⟩
  clear hfill
  k_dflt (refine' call_cls ?k1 ?k2 ?k3 ?k4 ?k5 ?k6 ?_; (case k1 => k_asm); (case k2 => k_asm); (case k3 => k_asm); (case k4 => k_is); (case k5 => k_is); (case k6 => k_is); k_whole; intro x' d' h' F' N' l1 l2; (try k_lt l1); (try k_lt2 l2); ktr_enter)
  k_steps
  obtain ⟨NA, NB⟩ := made2 (by assumption) l1 l2
  exact ret _ _ _ _ (by assumption) NA NB ⟨_, _, _, _, _, _, _, _, _, _, _, _, _, _, _, _, _, _, _, _, _, _, _, List.mem_cons_self, List.mem_cons_of_mem _ List.mem_cons_self⟩
end
end
end
section
theorem kwB4_1 : True := by
  w_top off
  k_with_none
  (k_with "andf" => (first | assumption | exact And.left (by assumption) | exact And.left (And.right (by assumption)) | exact And.left (And.right (And.right (by assumption))) | exact And.left (And.right (And.right (And.right (by assumption)))) | exact And.left (And.right (And.right (And.right (And.right (by assumption))))) | exact And.left (And.right (And.right (And.right (And.right (And.right (by assumption)))))) | exact And.left (And.right (And.right (And.right (And.right (And.right (And.right (by assumption))))))) | exact And.left (And.right (And.right (And.right (And.right (And.right (And.right (And.right (by assumption)))))))) | exact And.left (And.right (And.right (And.right (And.right (And.right (And.right (And.right (And.right (by assumption))))))))) | exact And.left (And.right (And.right (And.right (And.right (And.right (And.right (And.right (And.right (And.right (by assumption)))))))))) | exact And.left (And.right (And.right (And.right (And.right (And.right (And.right (And.right (And.right (And.right (And.right (by assumption))))))))))) | exact And.left (And.right (And.right (And.right (And.right (And.right (And.right (And.right (And.right (And.right (And.right (And.right (by assumption)))))))))))) | exact And.left (And.right (And.right (And.right (And.right (And.right (And.right (And.right (And.right (And.right (And.right (And.right (And.right (by assumption))))))))))))) | exact And.left (And.right (And.right (And.right (And.right (And.right (And.right (And.right (And.right (And.right (And.right (And.right (And.right (And.right (by assumption))))))))))))))))
  (k_with "k_ne" => ((refine neN ?_; (try dsimp only); first | assumption | exact fun kwe9 => absurd kwe9.symm (by assumption) | exact ne_up1 | exact up_ne1 | exact ne_up2 | exact up_ne2 | exact ne_up3 | exact up_ne3 | exact ne_up4 | exact up_ne4 | exact ne_up5 | exact up_ne5 | exact ne_up6 | exact up_ne6 | exact ne_up7 | exact up_ne7 | exact Nat.ne_of_gt (by k_extra "andf") | exact Nat.ne_of_lt (by k_extra "andf") | omega)))
  (k_with "ktr_rel" => (first | exact List.mem_cons_self | ktr_member | (refine List.mem_cons_of_mem _ ?_; ktr_rel) | (refine List.mem_append.mpr (Or.inl ?_); ktr_rel) | (refine List.mem_append.mpr (Or.inr ?_); ktr_rel)))
  trivial
def Sz (lo hi n : Nat) : Prop := lo ≤ n ∧ n ≤ hi
theorem Sz.lt {lo hi n b : Nat} (h : Sz lo hi n) (k : hi < b := by decide) : n < b := Nat.lt_of_le_of_lt h.2 k
theorem Sz.pos {hi n : Nat} (h : Sz 1 hi n) : 0 < n := h.1
/-- a digit, told as a size -/
theorem sz_of {d : Int} {k : Nat} (h0 : 0 ≤ d) (h1 : d < (k : Int)) : ∃ n : Nat, 1 + d = (n : Int) ∧ Sz 1 k n := ⟨(1 + d).toNat, by omega, by unfold Sz; omega⟩
section
variable {prog : Program} {w : World} {A : Around} {E : Value → Shared → Prop} {s : Shared} {h₀ : Heap} {L : Addr} {news : List (Addr × Obj)} {Q : Value → Shared → Prop}
theorem pick_tup {value slice : PySem.Expr} {l : Addr} {vs : List Value} {n : Nat} {k : Int} {u : Tok}
    (N : News h₀ L s.heap news) (hm : (l, listOf vs.toArray n) ∈ news) (h0 : 0 ≤ k) (hk : k < (vs.length : Int)) (hb : vs.length < 100)
    (hall : ∀ v ∈ vs, ∃ T mdl many tm tn nn, v = .ref T ∧ (T, ({ cls := .type "tuple", data := .seq #[.str mdl tm, .int ((many : Nat) : Int) tn] nn } : Obj)) ∈ news ∧ 1 ≤ many ∧ many ≤ 4 ∧ PyData.strOk mdl = true)
    (h : ∀ T mdl many tm tn nn, (T, ({ cls := .type "tuple", data := .seq #[.str mdl tm, .int ((many : Nat) : Int) tn] nn } : Obj)) ∈ news → Sz 1 4 many → PyData.strOk mdl = true → Q (.ref T) s)
    (hs : subscripted slice false (.ref l) (.int k u) = operate [.ref l, .int k u] (getItem (.ref l) (.int k u)) := by with_unfolding_all rfl) :
    wpAny (model prog w) A (subscriptTail value slice (.ref l) (.int k u)) Q E s := by
  have hk' : k.toNat < vs.length := by omega
  obtain ⟨T, mdl, many, tm, tn, nn, e, a, b, c, d⟩ := hall _ (List.getElem_mem hk')
  exact item_led N hm h0 (by omega) (by rw [List.getElem?_eq_getElem hk', e]) (h T mdl many tm tn nn a ⟨b, c⟩ d) hs
theorem pick_int {value slice : PySem.Expr} {l : Addr} {vs : List Value} {n : Nat} {k : Int} {u : Tok} {P : Int → Prop}
    (N : News h₀ L s.heap news) (hm : (l, listOf vs.toArray n) ∈ news) (h0 : 0 ≤ k) (hk : k < (vs.length : Int)) (hb : vs.length < 100)
    (hall : ∀ v ∈ vs, ∃ b t, v = .int b t ∧ P b) (h : ∀ b t, P b → Q (.int b t) s)
    (hs : subscripted slice false (.ref l) (.int k u) = operate [.ref l, .int k u] (getItem (.ref l) (.int k u)) := by with_unfolding_all rfl) :
    wpAny (model prog w) A (subscriptTail value slice (.ref l) (.int k u)) Q E s := by
  have hk' : k.toNat < vs.length := by omega
  obtain ⟨b, t, e, a⟩ := hall _ (List.getElem_mem hk')
  exact item_led N hm h0 (by omega) (by rw [List.getElem?_eq_getElem hk', e]) (h b t a) hs
end
theorem news_skip6 {h₀ h : Heap} {L : Addr} {a b1 b2 b3 b4 b5 b6 : Addr × Obj} {Z : List (Addr × Obj)} (N : News h₀ L h (a :: b1 :: b2 :: b3 :: b4 :: b5 :: b6 :: Z)) : News h₀ L h (a :: Z) := fun p hp => N p (by
  rcases List.mem_cons.mp hp with h | h <;> simp [h])
theorem news_off {h₀ h : Heap} {L : Addr} {Z : List (Addr × Obj)} (n : Nat) (N : News h₀ L h Z) : News h₀ L h (Z.drop n) := fun p hp => N p (List.mem_of_mem_drop hp)
abbrev urnO (x0 x1 : Int) (t0 t1 : Tok) (nn : Nat) : Obj := listOf #[.int x0 t0, .int x1 t1] nn
def UrnB (x0 x1 : Int) : Prop := 0 ≤ x0 ∧ 0 ≤ x1 ∧ x1 < 2147490000
def UrnM (u : Addr) (M : List (Addr × Obj)) : Prop := ∃ x0 x1 t0 t1 nn, M = [(u, urnO x0 x1 t0 t1 nn)] ∧ UrnB x0 x1
theorem UrnM.adr {u : Addr} : ∀ M, UrnM u M → M.map (·.1) = [u] := fun M ⟨_, _, _, _, _, e, _⟩ => by rw [e]; rfl
section
open PyProof.Rows
variable {prog : Program} {w : World} {A : Around} {E : Value → Shared → Prop} {s : Shared} {env : Env} {h₀ : Heap} {x : Str} {body : List Stmt} {Q : Flow → Shared → Prop}
theorem build_urn {r ra u : Addr} {b : Int} {t₀ u₀ v₀ : Tok} {n : Nat} {m₀ : Str → Option Value} {e₀ nn : Nat} {x0 x1 : Int} {t0 t1 : Tok} {Z : List (Addr × Obj)} (R : Nat → List (Addr × Obj) → Value → Prop) (stored : List Str)
    (Rmono : ∀ j tl tl' v, (∀ p ∈ tl, p ∈ tl') → R j tl v → R j tl' v)
    (hh : A.handled = none) (hr : IsRange s.heap r 0 b 1 t₀ u₀ v₀) (hsmall : Builtin.Range.small 0 b 1 = true) (hsz : Builtin.Range.rangeSize 0 b 1 = (n : Int)) (F : Fr h₀ env.locals s.heap m₀)
    (N : News h₀ env.locals s.heap ((ra, listOf #[] e₀) :: (u, urnO x0 x1 t0 t1 nn) :: Z)) (hb : UrnB x0 x1) (hZ : ∀ p ∈ Z, p.1 ≠ ra ∧ p.1 ≠ u)
    (turn : ∀ (i : Nat) (t : Tok) (vs : List Value) (e : Nat) (x0 x1 : Int) (t0 t1 : Tok) (nn : Nat) (Y : List (Addr × Obj)) (uu : Str → Option Value) (h : Heap) (tk : Nat), i < n → vs.length = i → UrnB x0 x1 → (∀ p ∈ Y, p.1 ≠ ra) → (∀ p ∈ Y, p.1 ≠ u) → (∀ p ∈ Z, p ∈ Y) →
      Fr h₀ env.locals h (fT x (.int (i : Int) t) stored uu m₀) → News h₀ env.locals h ((ra, listOf vs.toArray e) :: (u, urnO x0 x1 t0 t1 nn) :: Y) →
      wpAny (model prog w) A (execs body env) (BPost h₀ env.locals ra (UrnM u) (R i) stored x m₀ vs [(u, urnO x0 x1 t0 t1 nn)] Y Q { s with heap := h, toks := tk }) E { s with heap := h, toks := tk })
    (done : ∀ (vs : List Value) (e : Nat) (x0 x1 : Int) (t0 t1 : Tok) (nn : Nat) (tl : List (Addr × Obj)) (uu : Str → Option Value) (h : Heap) (tk : Nat), vs.length = n → UrnB x0 x1 → Fr h₀ env.locals h (fD x stored uu m₀) → News h₀ env.locals h ((ra, listOf vs.toArray e) :: (u, urnO x0 x1 t0 t1 nn) :: (Z ++ tl)) →
      (∀ p ∈ tl, p.1 ≠ ra) → (∀ p ∈ tl, p.1 ≠ u) → Behind Z tl → (∀ (j : Nat) (v : Value), vs[j]? = some v → R j tl v) → Q .next { s with heap := h, toks := tk }) :
    wpAny (model prog w) A (pyIter (.ref r)) (fun it s₂ => LoopAtV prog w A h₀ env x body Q E it s₂) E s := by
  refine build_range (M₀ := [(u, urnO x0 x1 t0 t1 nn)]) [u] (UrnM u) R stored UrnM.adr (fun p hp => ⟨(hZ p hp).1, fun hm => (hZ p hp).2 (List.mem_singleton.mp hm)⟩) Rmono hh hr hsmall hsz F N ⟨_, _, _, _, _, rfl, hb⟩ ?_ ?_
  · rintro i t vs e M Y uu h tk hi hl ⟨y0, y1, s0, s1, mm, rfl, hb'⟩ h1 h2 h3 F₁ N₁
    have e1 : (0 : Int) + (i : Int) * 1 = (i : Int) := by omega
    rw [e1] at F₁
    exact turn i t vs e y0 y1 s0 s1 mm Y uu h tk hi hl hb' h1 (fun p hp e => h2 p hp (by rw [e]; exact List.mem_singleton.mpr rfl)) h3 F₁ N₁
  · rintro vs e M tl uu h tk hl ⟨y0, y1, s0, s1, mm, rfl, hb'⟩ F₁ N₁ o1 o2 hR
    exact done vs e y0 y1 s0 s1 mm tl uu h tk hl hb' F₁ N₁ (fun p hp => (o1 p hp).1) (fun p hp => (o1 p hp).2 u (List.mem_singleton.mpr rfl)) o2 hR
end
section
open PyProof.Rows
variable {prog : Program} {w : World} {A : Around} {h₀ : Heap} {L : Addr} {m : Str → Option Value} {env : Env} {elt : PySem.Expr} {x : Str} {scope : Scope} {cl : List (Str × Addr)}
theorem comp_urn {s : Shared} {S : List (Addr × Obj) → Prop} {P : Nat → Value → Prop} {Fin : List Value → List (Addr × Obj) → Prop} {Z : List (Addr × Obj)} {n : Nat} {u : Addr} {x0 x1 : Int} {t0 t1 : Tok} {nn : Nat} (R : Nat → List (Addr × Obj) → Value → Prop)
    (hb : UrnB x0 x1) (hZ : ∀ p ∈ Z, p.1 ≠ u) (Rmono : ∀ j tl tl' v, (∀ p ∈ tl, p ∈ tl') → R j tl v → R j tl' v) (hS : ∀ M tl, UrnM u M → S (M ++ (Z ++ tl)))
    (turn : ∀ (i : Nat) (v : Value) (I : Addr) (oI : Obj) (C : Addr) (oC : Obj) (D : Addr) (ys : List Value) (m₂ : Str → Option Value) (h : Heap) (tk : Nat) (E' : Value → Shared → Prop) (x0 x1 : Int) (t0 t1 : Tok) (nn : Nat) (Y : List (Addr × Obj)), i < n → ys.length = i → P i v → UrnB x0 x1 → (∀ p ∈ Y, p.1 ≠ u) → (∀ p ∈ Z, p ∈ Y) →
      LCg.Off3 I C D ((u, urnO x0 x1 t0 t1 nn) :: Y) → ((@Ne Nat I C) ∧ (@Ne Nat I D) ∧ (@Ne Nat C D)) → LCg.NsObj oC m₂ → m₂ x = some v → Fr h₀ L h m → News h₀ L h ((I, oI) :: (C, oC) :: (D, LCg.lst ys) :: (u, urnO x0 x1 t0 t1 nn) :: Y) →
      wpAny (model prog w) A (eval elt (compEnvC scope cl C env)) (CEnd h₀ L m { s with heap := h, toks := tk } I oI C oC D (LCg.lst ys) (UrnM u) (R i) [(u, urnO x0 x1 t0 t1 nn)] Y) E' { s with heap := h, toks := tk })
    (fin : ∀ (ys : List Value) (x0 x1 : Int) (t0 t1 : Tok) (nn : Nat) (tl : List (Addr × Obj)), ys.length = n → UrnB x0 x1 → Behind Z tl → (∀ p ∈ tl, p.1 ≠ u) → (∀ (j : Nat) (v : Value), ys[j]? = some v → R j tl v) → Fin ys ((u, urnO x0 x1 t0 t1 nn) :: (Z ++ tl))) :
    LCg.CompRest prog w A h₀ L m env elt x scope cl s S P Fin n 0 [] ((u, urnO x0 x1 t0 t1 nn) :: Z) := by
  refine comp_go [(u, urnO x0 x1 t0 t1 nn)] [u] (UrnM u) R UrnM.adr (fun p hp hm => hZ p hp (List.mem_singleton.mp hm)) Rmono hS ?_ ?_ ⟨_, _, _, _, _, rfl, hb⟩
  · rintro i v I oI C oC D ys m₂ h tk E' M Y hi hl hP ⟨y0, y1, s0, s1, mm, rfl, hb'⟩ hY h3 off ne hC hx F N
    exact turn i v I oI C oC D ys m₂ h tk E' y0 y1 s0 s1 mm Y hi hl hP hb' (fun p hp e => hY p hp (by rw [e]; exact List.mem_singleton.mpr rfl)) h3 off ne hC hx F N
  · rintro ys M tl hl ⟨y0, y1, s0, s1, mm, rfl, hb'⟩ hbh ha hR
    exact fin ys y0 y1 s0 s1 mm tl hl hb' hbh (fun p hp e => ha p hp (by rw [e]; exact List.mem_singleton.mpr rfl)) hR
/-- a turn ends: a value that needs no object, the urn turned -/
theorem cend_urn {s₁ : Shared} {I C D u : Addr} {oI oC oD o : Obj} {R : List (Addr × Obj) → Value → Prop} {x0 x1 : Int} {t0 t1 : Tok} {nn : Nat} {Y : List (Addr × Obj)} {y : Value} {h' : Heap} {tk' : Nat}
    (F : Fr h₀ L h' m) (N : News h₀ L h' ((I, oI) :: (C, oC) :: (D, oD) :: (u, urnO x0 x1 t0 t1 nn) :: Y)) (hb : UrnB x0 x1) (r : R [] y) : CEnd h₀ L m s₁ I oI C oC D oD (UrnM u) R [(u, o)] Y y { s₁ with heap := h', toks := tk' } :=
  ⟨h', tk', [(u, urnO x0 x1 t0 t1 nn)], [], rfl, F, by rw [List.append_nil]; exact N, Behind.nil, ⟨_, _, _, _, _, rfl, hb⟩, r⟩
end
theorem news_cut2 {h₀ h : Heap} {L : Addr} {a b : Addr × Obj} {Z : List (Addr × Obj)} (N : News h₀ L h (a :: b :: Z)) : News h₀ L h (a :: Z) := fun p hp => N p (by
  rcases List.mem_cons.mp hp with h | h <;> simp [h])
theorem sz6 {d : Int} (h1 : d < 6) (h0 : 0 ≤ d) : ∃ n : Nat, 1 + d = (n : Int) ∧ Sz 1 6 n := sz_of (k := 6) h0 h1
theorem sz5 {d : Int} (h1 : d < 5) (h0 : 0 ≤ d) : ∃ n : Nat, 1 + d = (n : Int) ∧ Sz 1 5 n := sz_of (k := 5) h0 h1
section
open PyProof.Rows
variable {h₀ : Heap} {L : Addr} {m : Str → Option Value}
theorem cend_urn_row {s₁ : Shared} {I C D D3 u : Addr} {oI oC oD o o3 : Obj} {R : List (Addr × Obj) → Value → Prop} {x0 x1 : Int} {t0 t1 : Tok} {nn : Nat} {Y tl3 : List (Addr × Obj)} {y : Value} {h' : Heap} {tk' : Nat}
    (F : Fr h₀ L h' m) (N : News h₀ L h' ((D3, o3) :: (u, urnO x0 x1 t0 t1 nn) :: (((I, oI) :: (C, oC) :: (D, oD) :: Y) ++ tl3))) (off : LCg.Off1 D3 ((u, urnO x0 x1 t0 t1 nn) :: (((I, oI) :: (C, oC) :: (D, oD) :: Y) ++ tl3)))
    (hb3 : Behind ((I, oI) :: (C, oC) :: (D, oD) :: Y) tl3) (ha : ∀ p ∈ tl3, p.1 ≠ u) (hb : UrnB x0 x1) (r : R ((D3, o3) :: tl3) y) : CEnd h₀ L m s₁ I oI C oC D oD (UrnM u) R [(u, o)] Y y { s₁ with heap := h', toks := tk' } := by
  have offm := off1_all off
  refine ⟨h', tk', [(u, urnO x0 x1 t0 t1 nn)], (D3, o3) :: tl3, rfl, F, fun p hp => N p ?_, ?_, ⟨_, _, _, _, _, rfl, hb⟩, r⟩
  · simp only [List.mem_cons, List.mem_append, List.not_mem_nil, or_false] at hp ⊢
    rcases hp with h | h | h | h | h | h | h <;> simp [h]
  · intro q hq p hp
    rcases List.mem_cons.mp hp with rfl | hp
    · refine fun e => offm q ?_ e.symm
      simp only [List.mem_cons, List.mem_append, List.not_mem_nil, or_false] at hq ⊢
      rcases hq with h | h | h | h | h
      · simp [h]
      · simp [h]
      · simp [h]
      · exact absurd e (fun e => offm (u, urnO x0 x1 t0 t1 nn) (by simp) (by rw [h] at e; exact e.symm))
      · simp [h]
    · simp only [List.mem_cons, List.mem_append] at hq
      rcases hq with h | h | h | h | h
      · exact hb3 q (by simp [h]) p hp
      · exact hb3 q (by simp [h]) p hp
      · exact hb3 q (by simp [h]) p hp
      · have : q.1 = u := by simpa using congrArg Prod.fst (show q = (u, o) by simpa using h)
        rw [this]; exact ha p hp
      · exact hb3 q (by simp [h]) p hp
theorem news_swap {h : Heap} {a b : Addr × Obj} {Z : List (Addr × Obj)} (N : News h₀ L h (a :: b :: Z)) : News h₀ L h (b :: a :: Z) := fun p hp => N p (by
  simp only [List.mem_cons] at hp ⊢
  rcases hp with h | h | h <;> simp [h])
theorem news_front3 {h : Heap} {a b c d : Addr × Obj} {Z : List (Addr × Obj)} (N : News h₀ L h (a :: b :: c :: d :: Z)) : News h₀ L h (d :: a :: b :: c :: Z) := fun p hp => N p (by
  simp only [List.mem_cons] at hp ⊢
  rcases hp with h | h | h | h | h <;> simp [h])
theorem bend_urn {x : Str} {s₁ : Shared} {ra D u : Addr} {o oD : Obj} {R : List (Addr × Obj) → Value → Prop} {stored : List Str} {m₀ m' : Str → Option Value} {vs : List Value} {x0 x1 : Int} {t0 t1 : Tok} {nn e' : Nat} {Y tl : List (Addr × Obj)} {v : Value} {h' : Heap} {tk' : Nat} {ol : Obj}
    (F : Fr h₀ L h' m') (N : News h₀ L h' ((D, oD) :: (u, urnO x0 x1 t0 t1 nn) :: (ra, listOf (vs.toArray.push v) e') :: (Y ++ tl))) (off : LCg.Off1 D ((u, urnO x0 x1 t0 t1 nn) :: (((ra, ol) :: Y) ++ tl)))
    (hb3 : Behind ((ra, ol) :: Y) tl) (ha : ∀ p ∈ tl, p.1 ≠ u) (hb : UrnB x0 x1) (ag : Agree stored x m' m₀) (r : R ((D, oD) :: tl) v) :
    BEnd h₀ L ra (UrnM u) R stored x m₀ vs [(u, o)] Y s₁ { s₁ with heap := h', toks := tk' } := by
  have offm := off1_all off
  rw [List.push_toArray] at N
  refine ⟨h', tk', m', v, e', [(u, urnO x0 x1 t0 t1 nn)], (D, oD) :: tl, rfl, F, ag, fun p hp => N p ?_, ?_, ?_, ⟨_, _, _, _, _, rfl, hb⟩, r⟩
  · simp only [List.mem_cons, List.mem_append, List.not_mem_nil, or_false] at hp ⊢
    rcases hp with h | h | h | h | h <;> simp [h]
  · intro p hp
    rcases List.mem_cons.mp hp with rfl | hp
    · exact fun e => offm (ra, ol) (by simp) e.symm
    · exact hb3 (ra, ol) (by simp) p hp
  · intro q hq p hp
    simp only [List.mem_cons, List.mem_append, List.not_mem_nil, or_false] at hq
    rcases List.mem_cons.mp hp with rfl | hp
    · rcases hq with h | h
      · exact fun e => offm (u, urnO x0 x1 t0 t1 nn) (by simp) (by rw [h] at e; exact e.symm)
      · exact fun e => offm q (by simp [h]) e.symm
    · rcases hq with h | h
      · rw [h]; exact ha p hp
      · exact hb3 q (by simp [h]) p hp
end
theorem stopQ {α : Type} {M : Model} {A : Around} {t : Sem α} {P : α → Shared → Prop} {E : Value → Shared → Prop} {s : Shared} (h : wpAny M A t (fun v s => Stop (P v s)) E s) : wpAny M A t P E s := h
theorem ne_cons {a : Addr × Obj} {u : Addr} {Y : List (Addr × Obj)} (h : @Ne Nat a.1 u) (k : ∀ p ∈ Y, p.1 ≠ u) : ∀ p ∈ a :: Y, p.1 ≠ u := by
  intro p hp
  rcases List.mem_cons.mp hp with rfl | hp
  · exact h
  · exact k p hp
theorem off_front {I C D u : Addr} {oI oC oD o : Obj} {Y : List (Addr × Obj)} (off : LCg.Off3 I C D ((u, o) :: Y)) (k : ∀ p ∈ Y, p.1 ≠ u) : ∀ p ∈ (I, oI) :: (C, oC) :: (D, oD) :: Y, p.1 ≠ u :=
  ne_cons (Ne.symm off.1.1) (ne_cons (Ne.symm off.1.2.1) (ne_cons (Ne.symm off.1.2.2) k))
theorem ints_some : ∀ {vs : List Value}, (∀ (j : Nat) (v : Value), vs[j]? = some v → ∃ i t, v = Value.int i t) → ∃ ns, IntsAre vs ns
  | [], _ => ⟨[], .nil⟩
  | v :: vs, h => by
    obtain ⟨i, t, rfl⟩ := h 0 v rfl
    obtain ⟨ns, hn⟩ := ints_some (vs := vs) fun j w hw => h (j + 1) w (by simpa using hw)
    exact ⟨_, .cons i t hn⟩
theorem rows_some {tl : List (Addr × Obj)} {wd : Nat} : ∀ {vs : List Value}, (∀ (j : Nat) (v : Value), vs[j]? = some v → ∃ r : List Int, r.length = wd ∧ DatIn tl v (rowD r)) → ∃ g : List (List Int), g.length = vs.length ∧ (∀ r ∈ g, r.length = wd) ∧ DatAll tl vs (g.map rowD)
  | [], _ => ⟨[], rfl, (fun _ h => nomatch h), .nil⟩
  | v :: vs, h => by
    obtain ⟨r, hr, hd⟩ := h 0 v rfl
    obtain ⟨g, h1, h2, h3⟩ := rows_some (vs := vs) fun j w hw => h (j + 1) w (by simpa using hw)
    refine ⟨r :: g, by simp [h1], fun q hq => ?_, .cons hd h3⟩
    rcases List.mem_cons.mp hq with rfl | hq
    · exact hr
    · exact h2 q hq
theorem grid_some {tl : List (Addr × Obj)} {D : Addr} {wd hg : Nat} {vs : List Value} (h : ∀ (j : Nat) (v : Value), vs[j]? = some v → ∃ r : List Int, r.length = wd ∧ DatIn tl v (rowD r)) (hl : vs.length = hg) (hw : 0 < wd) (hh : 0 < hg) :
    ∃ g, Grid wd hg g ∧ DatIn ((D, LCg.lst vs) :: tl) (.ref D) (gD g) := by
  obtain ⟨g, h1, h2, h3⟩ := rows_some h
  exact ⟨g, ⟨by rw [h1, hl], h2, hw, hh⟩, .list List.mem_cons_self (DatAll.mono (fun p hp => List.mem_cons_of_mem _ hp) h3)⟩
theorem row_some {tl : List (Addr × Obj)} {D : Addr} {wd : Nat} {vs : List Value} (h : ∀ (j : Nat) (v : Value), vs[j]? = some v → ∃ i t, v = Value.int i t) (hl : vs.length = wd) :
    ∃ r : List Int, r.length = wd ∧ DatIn ((D, LCg.lst vs) :: tl) (.ref D) (rowD r) := by
  obtain ⟨r, hr⟩ := ints_some h
  exact ⟨r, by rw [← hr.length, hl], .list List.mem_cons_self (ints_datAll hr)⟩
theorem grids_some {tl : List (Addr × Obj)} {wd hg : Nat} : ∀ {vs : List Value}, (∀ (j : Nat) (v : Value), vs[j]? = some v → ∃ g, Grid wd hg g ∧ DatIn tl v (gD g)) → ∃ gs : List (List (List Int)), gs.length = vs.length ∧ (∀ g ∈ gs, Grid wd hg g) ∧ ∀ (j : Nat) (v : Value), vs[j]? = some v → Grid wd hg (gs.getD j []) ∧ DatIn tl v (gD (gs.getD j []))
  | [], _ => ⟨[], rfl, (fun _ h => nomatch h), fun j v h => by simp at h⟩
  | v :: vs, h => by
    obtain ⟨r, hr, hd⟩ := h 0 v rfl
    obtain ⟨g, h1, h2, h3⟩ := grids_some (vs := vs) fun j w hw => h (j + 1) w (by simpa using hw)
    refine ⟨r :: g, by simp [h1], fun q hq => ?_, fun j w hw => ?_⟩
    · rcases List.mem_cons.mp hq with rfl | hq
      · exact hr
      · exact h2 q hq
    · match j, hw with
      | 0, hw => obtain rfl : v = w := by simpa using hw
                 exact ⟨hr, hd⟩
      | j + 1, hw => simpa using h3 j w (by simpa using hw)
theorem plane_mk {Z : List (Addr × Obj)} {x d : Addr} {h1 h2 h3 : Int} {t1 t2 t3 tw th : Tok} {wi hi : Int} {vr : Value} {n wd hg : Nat} {g : List (List Int)} (m1 : (x, instObj 94 d) ∈ Z)
    (m2 : (d, dictOf [ent h1 "width" t1 (.int wi tw), ent h2 "height" t2 (.int hi th), ent h3 "rows" t3 vr] n) ∈ Z) (hwi : wi = (wd : Int)) (hhi : hi = (hg : Int)) (hd : DatIn Z vr (gD g)) (ok : Grid wd hg g) : PlaneAt Z x wd hg g := by
  subst hwi hhi
  exact ⟨⟨_, _, _, _, _, _, _, _, _, _, _, m1, m2, hd⟩, ok⟩
section
open PyProof.Rows
variable {h₀ : Heap} {L : Addr} {m : Str → Option Value}
theorem cend_one {s₁ : Shared} {I C D Dn : Addr} {oI oC oD on : Obj} {R : List (Addr × Obj) → Value → Prop} {Y : List (Addr × Obj)} {y : Value} {h' : Heap} {tk' : Nat}
    (F : Fr h₀ L h' m) (N : News h₀ L h' ((Dn, on) :: (I, oI) :: (C, oC) :: (D, oD) :: ([] ++ Y))) (l : ∀ q ∈ (I, oI) :: (C, oC) :: (D, oD) :: ([] ++ Y), q.1 < Dn) (r : R [(Dn, on)] y) : CEnd h₀ L m s₁ I oI C oC D oD (fun M => M = []) R [] Y y { s₁ with heap := h', toks := tk' } := by
  refine ⟨h', tk', [], [(Dn, on)], rfl, F, fun p hp => N p ?_, fun q hq p hp => ?_, rfl, r⟩
  · simp only [List.mem_cons, List.mem_append, List.not_mem_nil, or_false, List.nil_append] at hp ⊢
    rcases hp with h | h | h | h | h <;> simp [h]
  · rw [List.mem_singleton.mp hp]
    exact Nat.ne_of_gt (l q hq)
/-- a list that a comprehension has made, put behind what stood -/
theorem cend_list {s₁ : Shared} {I C D D3 : Addr} {oI oC oD o3 : Obj} {R : List (Addr × Obj) → Value → Prop} {Y tl3 : List (Addr × Obj)} {y : Value} {h' : Heap} {tk' : Nat}
    (F : Fr h₀ L h' m) (N : News h₀ L h' ((D3, o3) :: ([] ++ (((I, oI) :: (C, oC) :: (D, oD) :: ([] ++ Y)) ++ tl3)))) (off : LCg.Off1 D3 ([] ++ (((I, oI) :: (C, oC) :: (D, oD) :: ([] ++ Y)) ++ tl3)))
    (hb3 : Behind ((I, oI) :: (C, oC) :: (D, oD) :: ([] ++ Y)) tl3) (r : R ((D3, o3) :: tl3) y) : CEnd h₀ L m s₁ I oI C oC D oD (fun M => M = []) R [] Y y { s₁ with heap := h', toks := tk' } := by
  have offm := off1_all off
  refine ⟨h', tk', [], (D3, o3) :: tl3, rfl, F, fun p hp => N p ?_, fun q hq p hp => ?_, rfl, r⟩
  · simp only [List.mem_cons, List.mem_append, List.not_mem_nil, or_false, false_or, List.nil_append] at hp ⊢
    rcases hp with h | h | h | h | h | h <;> simp [h]
  · rcases List.mem_cons.mp hp with rfl | hp
    · exact fun e => offm q (by simp only [List.nil_append] at hq ⊢; exact List.mem_append_left _ hq) e.symm
    · exact hb3 q hq p hp
end
theorem rows_made {tl : List (Addr × Obj)} {D : Addr} {g : List (List Int)} {vs : List Value} (hl : vs.length = g.length) (h : ∀ (j : Nat) (v : Value), vs[j]? = some v → DatIn tl v (rowD (g.getD j []))) : DatIn ((D, LCg.lst vs) :: tl) (.ref D) (gD g) := by
  have key : DatAll tl vs ((List.range g.length).map fun j => rowD (g.getD j [])) := dats_of_get hl h
  have e : ((List.range g.length).map fun j => rowD (g.getD j [])) = g.map rowD := by
    apply List.ext_getElem
    · simp
    · intro i h1 h2
      have hi : i < g.length := by simpa using h1
      simp [List.getD_eq_getElem?_getD, List.getElem?_eq_getElem hi]
  rw [e] at key
  exact .list List.mem_cons_self (DatAll.mono (fun p hp => List.mem_cons_of_mem _ hp) key)
theorem getD_mem {α : Type} {l : List α} {j : Nat} {d : α} (h : j < l.length) : l.getD j d ∈ l := by
  rw [List.getD_eq_getElem?_getD, List.getElem?_eq_getElem h]; exact List.getElem_mem h
section
open PyProof.Rows
variable {h₀ : Heap} {L : Addr} {m : Str → Option Value}
theorem cend_plane {s₁ : Shared} {I C D D3 x' d' : Addr} {oI oC oD o3 ox od : Obj} {R : List (Addr × Obj) → Value → Prop} {Y tl3 : List (Addr × Obj)} {y : Value} {h' : Heap} {tk' : Nat}
    (F : Fr h₀ L h' m) (N : News h₀ L h' ((x', ox) :: (d', od) :: (D3, o3) :: ([] ++ (((I, oI) :: (C, oC) :: (D, oD) :: ([] ++ Y)) ++ tl3)))) (l1 : D3 < d' ∧ AllLt d' ([] ++ (((I, oI) :: (C, oC) :: (D, oD) :: ([] ++ Y)) ++ tl3))) (l2 : d' < x')
    (off : LCg.Off1 D3 ([] ++ (((I, oI) :: (C, oC) :: (D, oD) :: ([] ++ Y)) ++ tl3)))
    (hb3 : Behind ((I, oI) :: (C, oC) :: (D, oD) :: ([] ++ Y)) tl3) (r : R ((x', ox) :: (d', od) :: (D3, o3) :: tl3) y) : CEnd h₀ L m s₁ I oI C oC D oD (fun M => M = []) R [] Y y { s₁ with heap := h', toks := tk' } := by
  have offm := off1_all off
  have l2' : @LT.lt Nat _ d' x' := l2
  refine ⟨h', tk', [], (x', ox) :: (d', od) :: (D3, o3) :: tl3, rfl, F, fun p hp => N p ?_, fun q hq p hp => ?_, rfl, r⟩
  · simp only [List.mem_cons, List.mem_append, List.not_mem_nil, or_false, false_or, List.nil_append] at hp ⊢
    rcases hp with h | h | h | h | h | h | h | h <;> simp [h]
  · have lq : @LT.lt Nat _ q.1 d' := ktn_ltOf l1.2 q (by simp only [List.nil_append] at hq ⊢; exact List.mem_append_left _ hq)
    rcases List.mem_cons.mp hp with rfl | hp
    · show @Ne Nat _ _; k_ne
    · rcases List.mem_cons.mp hp with rfl | hp
      · show @Ne Nat _ _; k_ne
      · rcases List.mem_cons.mp hp with rfl | hp
        · exact fun e => offm q (by simp only [List.nil_append] at hq ⊢; exact List.mem_append_left _ hq) e.symm
        · exact hb3 q hq p hp
end
theorem nat4 {d : Int} (h1 : d < 4) (h0 : 0 ≤ d) : ∃ n : Nat, d = (n : Int) ∧ Sz 0 3 n := ⟨d.toNat, by omega, by unfold Sz; omega⟩
section
open PyProof.Rows
variable {h₀ : Heap} {L : Addr} {m : Str → Option Value}
theorem news_front4 {h : Heap} {a b c d e : Addr × Obj} {Z : List (Addr × Obj)} (N : News h₀ L h (a :: b :: c :: d :: e :: Z)) : News h₀ L h (e :: a :: b :: c :: d :: Z) := fun p hp => N p (by
  simp only [List.mem_cons] at hp ⊢
  rcases hp with h | h | h | h | h | h <;> simp [h])
theorem cend_urn_one {s₁ : Shared} {I C D u T : Addr} {oI oC oD o oT : Obj} {R : List (Addr × Obj) → Value → Prop} {x0 x1 : Int} {t0 t1 : Tok} {nn : Nat} {Y : List (Addr × Obj)} {y : Value} {h' : Heap} {tk' : Nat}
    (F : Fr h₀ L h' m) (N : News h₀ L h' ((T, oT) :: (I, oI) :: (C, oC) :: (D, oD) :: (u, urnO x0 x1 t0 t1 nn) :: Y)) (l : I < T ∧ C < T ∧ D < T ∧ u < T ∧ AllLt T Y) (hb : UrnB x0 x1) (r : R [(T, oT)] y) : CEnd h₀ L m s₁ I oI C oC D oD (UrnM u) R [(u, o)] Y y { s₁ with heap := h', toks := tk' } := by
  refine ⟨h', tk', [(u, urnO x0 x1 t0 t1 nn)], [(T, oT)], rfl, F, fun p hp => N p ?_, fun q hq p hp => ?_, ⟨_, _, _, _, _, rfl, hb⟩, r⟩
  · simp only [List.mem_cons, List.mem_append, List.not_mem_nil, or_false] at hp ⊢
    rcases hp with h | h | h | h | h | h <;> simp [h]
  · rw [List.mem_singleton.mp hp]
    obtain ⟨a1, a2, a3, a4, a5⟩ := l
    simp only [List.mem_cons, List.mem_append, List.not_mem_nil, or_false] at hq
    rcases hq with rfl | rfl | rfl | rfl | h
    · exact Nat.ne_of_gt a1
    · exact Nat.ne_of_gt a2
    · exact Nat.ne_of_gt a3
    · exact Nat.ne_of_gt a4
    · exact Nat.ne_of_gt (ktn_ltOf a5 q h)
end
theorem steps_some {tl : List (Addr × Obj)} : ∀ {vs : List Value}, (∀ (j : Nat) (v : Value), vs[j]? = some v → ∃ p n, ∃ s : Bool × Bool, v = Value.ref p ∧ (p, ({ cls := .type "tuple", data := .seq #[.bool s.1, .bool s.2] n } : Obj)) ∈ tl) → ∃ S, StepsAt tl vs S
  | [], _ => ⟨[], rfl, fun j v h => by simp at h⟩
  | v :: vs, h => by
    obtain ⟨p, n, s, hv, hm⟩ := h 0 v rfl
    obtain ⟨S, h1, h2⟩ := steps_some (vs := vs) fun j w hw => h (j + 1) w (by simpa using hw)
    refine ⟨s :: S, by simp [h1], fun j w hw => ?_⟩
    match j, hw with
    | 0, hw =>
      obtain rfl : v = w := by simpa using hw
      exact ⟨p, n, s, rfl, hv, hm⟩
    | j + 1, hw =>
      obtain ⟨p', n', s', a, b, c⟩ := h2 j w (by simpa using hw)
      exact ⟨p', n', s', by simpa using a, b, c⟩
end
section
theorem kwP60_1 : True := by
  w_top off
  k_with_none
  (k_with "andf" => (first | assumption | exact And.left (by assumption) | exact And.left (And.right (by assumption)) | exact And.left (And.right (And.right (by assumption))) | exact And.left (And.right (And.right (And.right (by assumption)))) | exact And.left (And.right (And.right (And.right (And.right (by assumption))))) | exact And.left (And.right (And.right (And.right (And.right (And.right (by assumption)))))) | exact And.left (And.right (And.right (And.right (And.right (And.right (And.right (by assumption))))))) | exact And.left (And.right (And.right (And.right (And.right (And.right (And.right (And.right (by assumption)))))))) | exact And.left (And.right (And.right (And.right (And.right (And.right (And.right (And.right (And.right (by assumption))))))))) | exact And.left (And.right (And.right (And.right (And.right (And.right (And.right (And.right (And.right (And.right (by assumption)))))))))) | exact And.left (And.right (And.right (And.right (And.right (And.right (And.right (And.right (And.right (And.right (And.right (by assumption))))))))))) | exact And.left (And.right (And.right (And.right (And.right (And.right (And.right (And.right (And.right (And.right (And.right (And.right (by assumption)))))))))))) | exact And.left (And.right (And.right (And.right (And.right (And.right (And.right (And.right (And.right (And.right (And.right (And.right (And.right (by assumption))))))))))))) | exact And.left (And.right (And.right (And.right (And.right (And.right (And.right (And.right (And.right (And.right (And.right (And.right (And.right (And.right (by assumption))))))))))))))))
  (k_with "k_ne" => ((refine neN ?_; (try dsimp only); first | assumption | exact fun kwe9 => absurd kwe9.symm (by assumption) | exact ne_up1 | exact up_ne1 | exact ne_up2 | exact up_ne2 | exact ne_up3 | exact up_ne3 | exact ne_up4 | exact up_ne4 | exact ne_up5 | exact up_ne5 | exact ne_up6 | exact up_ne6 | exact ne_up7 | exact up_ne7 | exact Nat.ne_of_gt (by k_extra "andf") | exact Nat.ne_of_lt (by k_extra "andf") | omega)))
  (k_with "ktr_rel" => (first | exact List.mem_cons_self | ktr_member | (refine List.mem_cons_of_mem _ ?_; ktr_rel) | (refine List.mem_append.mpr (Or.inl ?_); ktr_rel) | (refine List.mem_append.mpr (Or.inr ?_); ktr_rel)))
  trivial
/-- an exception of an own class, as its type lays it -/
abbrev excO (C t : Addr) (dd : Option Addr) : Obj := { cls := .ref C, dict := dd, data := .fields #[.ref t, .none, .none, .none, .bool false, .none] }
abbrev excT (rest : List Value) : Obj := { cls := .type "tuple", data := .seq rest.toArray }
section
open PyProof.Rows
variable {prog : Program} {w : World} {A : Around} {R : Result → Shared → Prop} {h : Heap} {g : Array GenState} {d : Drawn} {t : Nat} {os : OsState}
variable {nm q : Str} {C N : Addr} {bs bm bmN : List Value} {hdct : Bool} {sn : List Str} {sub : List Value} {ab : Bool} {col : Option Bool} {dd : Option Addr} {k0 k1 k2 k3 k5 : Option Value} {Bn newId inN : String}
/-- the base's __new__ upon an own class, whatever stands between them -/
theorem exc_new (Fn : ExcBaseFacts Bn newId inN bmN) (hB : bm.contains (.type Bn) = true) (hA : bm.contains (.type "AttributeError") = false) (hN : bm.contains (.type "NameError") = false)
    {rest : List Value} (hC : h.get? C = some (excClassObj nm q C N bs bm hdct sn sub ab col dd k0 k1 k2 k3 k5 newId))
    (hq : R (.ok (.ret (.ref (h.objs.size + 1)))) ⟨(h.push (excT rest)).push (excO C h.objs.size none), g, d, t, os⟩) (hrest : rest.length ≤ sizeLine) :
    codeAny (model prog w) A (.call (.builtin newId) ⟨.ref C :: rest, []⟩) R ⟨h, g, d, t, os⟩ := by
  have c1 : (Value.ref C :: bm).contains (.type Bn) = true := by rw [List.contains_cons, hB, Bool.or_true]
  have c2 : (Value.ref C :: bm).contains (.type "AttributeError") = false := by rw [List.contains_cons, hA]; rfl
  have c3 : (Value.ref C :: bm).contains (.type "NameError") = false := by rw [List.contains_cons, hN]; rfl
  have e1 := Fn.noStar
  have e2 := Fn.ends
  refine codeAny_call_builtin_code (Code.quiet_builtin _ Fn.quiet) ?_
  simp only [checkBuiltinCall, Fn.newKind, Fn.newSplit, Fn.newRow]
  repeat (first | refine wpAny_loadPart_at hC ?_ | (refine wpAny_isSubtype_exc hC ?_; rw [c1]) | refine wpAny_staticBase_exc hC ?_ | refine wpAny_madeBy_exc hC ?_ | simp only [bne_self_eq_false, Bool.false_eq_true, if_false] | wp_step)
  refine codeAny_builtinAt Fn.entry ?_
  unfold Builtin.«BaseException.__new__»
  refine PySem.wpAt_bind ?_
  show PySem.wpAt _ _ _ (stack >>= _) _ _ _
  refine PySem.wpAt_bind (PySem.wpAt_stack fun p below => PySem.wpAt_of_wpAny ?_)
  wp_walk
  refine PySem.wpAt_of_wpAny ?_
  rw [Fn.owner]
  repeat (first | with_reducible refine wpAny_madeHere_exc Fn.canon hC ?_ | with_reducible refine wpAny_loadPart_at hC ?_ | (with_reducible refine wpAny_isSubtype_exc hC ?_; first | rw [c1] | rw [c2] | rw [c3]) | wp_step)
  show R _ _
  rw [Heap.size_push]
  exact hq
end
end
section
section
open PyProof.Rows
variable {prog : Program} {w : World} {A : Around} {R : Result → Shared → Prop} {h : Heap} {g : Array GenState} {d : Drawn} {t : Nat} {os : OsState}
variable {nm q : Str} {C N : Addr} {bs bm bmN : List Value} {hdct : Bool} {sn : List Str} {sub : List Value} {ab : Bool} {col : Option Bool} {dd : Option Addr} {k0 k1 k2 k3 k5 : Option Value} {Bn newId inN : String}
theorem kwP61_1 : True := by
  w_top off
  k_with_none
  (k_with "andf" => (first | assumption | exact And.left (by assumption) | exact And.left (And.right (by assumption)) | exact And.left (And.right (And.right (by assumption))) | exact And.left (And.right (And.right (And.right (by assumption)))) | exact And.left (And.right (And.right (And.right (And.right (by assumption))))) | exact And.left (And.right (And.right (And.right (And.right (And.right (by assumption)))))) | exact And.left (And.right (And.right (And.right (And.right (And.right (And.right (by assumption))))))) | exact And.left (And.right (And.right (And.right (And.right (And.right (And.right (And.right (by assumption)))))))) | exact And.left (And.right (And.right (And.right (And.right (And.right (And.right (And.right (And.right (by assumption))))))))) | exact And.left (And.right (And.right (And.right (And.right (And.right (And.right (And.right (And.right (And.right (by assumption)))))))))) | exact And.left (And.right (And.right (And.right (And.right (And.right (And.right (And.right (And.right (And.right (And.right (by assumption))))))))))) | exact And.left (And.right (And.right (And.right (And.right (And.right (And.right (And.right (And.right (And.right (And.right (And.right (by assumption)))))))))))) | exact And.left (And.right (And.right (And.right (And.right (And.right (And.right (And.right (And.right (And.right (And.right (And.right (And.right (by assumption))))))))))))) | exact And.left (And.right (And.right (And.right (And.right (And.right (And.right (And.right (And.right (And.right (And.right (And.right (And.right (And.right (by assumption))))))))))))))))
  (k_with "k_ne" => ((refine neN ?_; (try dsimp only); first | assumption | exact fun kwe9 => absurd kwe9.symm (by assumption) | exact ne_up1 | exact up_ne1 | exact ne_up2 | exact up_ne2 | exact ne_up3 | exact up_ne3 | exact ne_up4 | exact up_ne4 | exact ne_up5 | exact up_ne5 | exact ne_up6 | exact up_ne6 | exact ne_up7 | exact up_ne7 | exact Nat.ne_of_gt (by k_extra "andf") | exact Nat.ne_of_lt (by k_extra "andf") | omega)))
  (k_with "ktr_rel" => (first | exact List.mem_cons_self | ktr_member | (refine List.mem_cons_of_mem _ ?_; ktr_rel) | (refine List.mem_append.mpr (Or.inl ?_); ktr_rel) | (refine List.mem_append.mpr (Or.inr ?_); ktr_rel)))
  trivial
/-- an own exception class called: its object stands, its own __init__ is to run -/
theorem exc_make {K : Frag} {init : Addr} (Fn : ExcBaseFacts Bn newId inN bmN) (hB : bm.contains (.type Bn) = true) (hA : bm.contains (.type "AttributeError") = false) (hN : bm.contains (.type "NameError") = false)
    {rest : List Value} (hC : h.get? C = some (excClassObj nm q C N bs bm hdct sn sub ab col dd k0 k1 k2 k3 k5 newId)) (X : K.In h)
    (hc : specialIn K (.ref C) "__call__" = some (some (.builtin "type.__call__"))) (ht : instIn K (.ref C) (.type "type") = some true) (hi : findIn K (.ref C) "__init__" = some (some (.ref init))) (hf : typeIn K (.ref init) = some (.type "function"))
    (hq : codeAny (model prog w) (A.under (.builtin "type.__call__" ⟨.ref C :: rest, []⟩)) (.call (.ref init) ⟨.ref (h.objs.size + 1) :: rest, []⟩) (InitBack (h.objs.size + 1) R) ⟨(h.push (excT rest)).push (excO C h.objs.size none), g, d, t, os⟩)
    (hrest : rest.length ≤ sizeLine) : codeAny (model prog w) A (.call (.ref C) ⟨rest, []⟩) R ⟨h, g, d, t, os⟩ := by
  have call : Looks (model prog w) h (specialOf (.ref C) "__call__") (some (.builtin "type.__call__")) := looks_specialIn X hc
  have typ : Looks (model prog w) h (isInstance (.ref C) (.type "type")) true := looks_instIn X ht
  have ini : Looks (model prog w) h (typeLookup (.ref C) "__init__") (some (.ref init)) := looks_findIn X hi
  have k : ∀ b o, h.get? b = some o → ((h.push (excT rest)).push (excO C h.objs.size none)).get? b = some o := fun b o e => Heap.get?_push_of_some _ (Heap.get?_push_of_some _ e)
  have hx : ((h.push (excT rest)).push (excO C h.objs.size none)).get? (h.objs.size + 1) = some (excO C h.objs.size none) := by heap_get
  refine codeAny_of_tree ?_
  show wpAny _ _ (callAny (.ref C) _) _ _ _
  refine nd_load hC ?_
  show wpAny _ _ (callAny.viaDunder (.ref C) _) _ _ _
  unfold callAny.viaDunder
  refine wpAny_bind (call.at ?_)
  dsimp only
  rw [tc_bind]
  refine wpAny_bind (wpAny_pure (wpAny_bind (wpAny_pure ?_)))
  refine wpAny_pure (a := Fin.again (.call (.builtin "type.__call__") ⟨.ref C :: rest, []⟩)) (And.intro rfl ?_)
  refine codeAny_call_builtin_at (Code.quiet_builtin _ (by decide +kernel)) entry_typeCall (check_slot tc_kind tc_split typ (tc_args _ _ _) ?_)
  unfold Builtin.«type.__call__»
  have mro : Looks (model prog w) h (mroOf (.ref C)) (.ref C :: bm) := ((Looks.ld (part := none) hC).andThen .now).andThen .now
  have made : Looks (model prog w) h (Bind.madeBy (.ref C)) (some newId) := fun A Q E s k q => wpAny_madeBy_exc (k _ _ hC) q
  have e4 : (Value.ref C :: bm).isEmpty = false := rfl
  repeat (first | simp only [e4, Bool.false_eq_true, if_false] | with_reducible refine wpAny_call ?_ | lk)
  refine exc_new Fn hB hA hN hC ?_ hrest
  have t1 : Looks (model prog w) ((h.push (excT rest)).push (excO C h.objs.size none)) (typeOf (.ref (h.objs.size + 1))) (.ref C) := (Looks.ld hx).andThen .now
  have s1 : Looks (model prog w) ((h.push (excT rest)).push (excO C h.objs.size none)) (isSubtype (.ref C) (.ref C)) true := fun A Q E s k' q => wpAny_isSubtype_exc (k' _ _ (k _ _ hC)) (by rw [List.contains_cons, BEq.rfl, Bool.true_or]; exact q)
  have i1 := ini.keeps k
  have b1 : Looks (model prog w) ((h.push (excT rest)).push (excO C h.objs.size none)) (bindSpecial (.ref init) (.ref (h.objs.size + 1))) (.ref init, [.ref (h.objs.size + 1)]) := (bind_fn X _ hf).keeps k
  unfold isInstance callSpecial? specialOf
  repeat (first | with_reducible refine wpAny_call ?_ | lk)
  refine codeAny_mono hq fun r s' z => ?_
  rcases r with e | (v | _ | _ | _) <;> first | exact z | exact z.elim | skip
  obtain ⟨rfl, z⟩ := z
  exact wpAny_pure (wpAny_pure z)
end
end
section
section
open PyProof.Rows
variable {M : Model} {A : Around} {E : Value → Shared → Prop} {env : Env} {s : Shared}
theorem kwP62_1 : True := by
  w_top off
  k_with_none
  (k_with "andf" => (first | assumption | exact And.left (by assumption) | exact And.left (And.right (by assumption)) | exact And.left (And.right (And.right (by assumption))) | exact And.left (And.right (And.right (And.right (by assumption)))) | exact And.left (And.right (And.right (And.right (And.right (by assumption))))) | exact And.left (And.right (And.right (And.right (And.right (And.right (by assumption)))))) | exact And.left (And.right (And.right (And.right (And.right (And.right (And.right (by assumption))))))) | exact And.left (And.right (And.right (And.right (And.right (And.right (And.right (And.right (by assumption)))))))) | exact And.left (And.right (And.right (And.right (And.right (And.right (And.right (And.right (And.right (by assumption))))))))) | exact And.left (And.right (And.right (And.right (And.right (And.right (And.right (And.right (And.right (And.right (by assumption)))))))))) | exact And.left (And.right (And.right (And.right (And.right (And.right (And.right (And.right (And.right (And.right (And.right (by assumption))))))))))) | exact And.left (And.right (And.right (And.right (And.right (And.right (And.right (And.right (And.right (And.right (And.right (And.right (by assumption)))))))))))) | exact And.left (And.right (And.right (And.right (And.right (And.right (And.right (And.right (And.right (And.right (And.right (And.right (And.right (by assumption))))))))))))) | exact And.left (And.right (And.right (And.right (And.right (And.right (And.right (And.right (And.right (And.right (And.right (And.right (And.right (And.right (by assumption))))))))))))))))
  (k_with "k_ne" => ((refine neN ?_; (try dsimp only); first | assumption | exact fun kwe9 => absurd kwe9.symm (by assumption) | exact ne_up1 | exact up_ne1 | exact ne_up2 | exact up_ne2 | exact ne_up3 | exact up_ne3 | exact ne_up4 | exact up_ne4 | exact ne_up5 | exact up_ne5 | exact ne_up6 | exact up_ne6 | exact ne_up7 | exact up_ne7 | exact Nat.ne_of_gt (by k_extra "andf") | exact Nat.ne_of_lt (by k_extra "andf") | omega)))
  (k_with "ktr_rel" => (first | exact List.mem_cons_self | ktr_member | (refine List.mem_cons_of_mem _ ?_; ktr_rel) | (refine List.mem_append.mpr (Or.inl ?_); ktr_rel) | (refine List.mem_append.mpr (Or.inr ?_); ktr_rel)))
  trivial
/-- what a raise of an own exception wants: the class, the object, what is behind -/
def OwnExc (E : Value → Shared → Prop) (v : Value) (s₁ : Shared) : Prop :=
  ∃ e t dd C nm q N bs bm hdct sn sub ab col cd k0 k1 k2 k3 k5 newId, v = .ref e ∧ s₁.heap.get? C = some (excClassObj nm q C N bs bm hdct sn sub ab col cd k0 k1 k2 k3 k5 newId) ∧ bm.contains (.type "BaseException") = true ∧
    s₁.heap.get? e = some (excO C t dd) ∧ E (.ref e) s₁
theorem raise_own {e : PySem.Expr} {pos : Pos} {Q : Flow → Shared → Prop} (hh : A.handled = none) (h : wpAny M A (eval e env) (OwnExc E) E s) : wpAny M A (exec (.Raise (some e) none pos) env) Q E s := by
  show wpAny M A (do standAt pos; raiseStmt env (some (do let v ← eval e env; standAt pos; pure v)) none) Q E s
  refine wpAny_bind (wpAny_standAt ?_)
  unfold raiseStmt
  dsimp only
  refine wpAny_bind (wpAny_bind (wpAny_mono h (fun v s₁ h₁ => wpAny_bind (wpAny_standAt (wpAny_pure ?_))) fun _ _ x => x))
  obtain ⟨a, t, dd, C, nm, q, N, bs, bm, hdct, sn, sub, ab, col, cd, k0, k1, k2, k3, k5, newId, rfl, hC, hb, he, hE⟩ := h₁
  have hcB : (Value.ref C :: bm).contains (.type "BaseException") = true := by rw [List.contains_cons, hb, Bool.or_true]
  obtain ⟨hp, g, d, tk, os⟩ := s₁
  repeat (first | with_reducible refine wpAny_loadPart_at he ?_ | with_reducible refine wpAny_loadPart_at hC ?_ | (with_reducible refine wpAny_isSubtype_exc hC ?_; rw [hcB]) | wp_step)
  exact wpAny_raiseNew_none hh hE
end
end
section
section
open PyProof.Rows
variable {prog : Program} {w : World} {A : Around} {E : Value → Shared → Prop} {Q : Value → Shared → Prop} {h : Heap} {g : Array GenState} {d : Drawn} {t : Nat} {os : OsState}
variable {nm q : Str} {C N : Addr} {bs bm bmN : List Value} {hdct : Bool} {sn : List Str} {sub : List Value} {ab : Bool} {col : Option Bool} {dd : Option Addr} {k0 k1 k2 k3 k5 : Option Value} {Bn newId nwId inId : String}
theorem kwP63_1 : True := by
  w_top off
  k_with_none
  (k_with "andf" => (first | assumption | exact And.left (by assumption) | exact And.left (And.right (by assumption)) | exact And.left (And.right (And.right (by assumption))) | exact And.left (And.right (And.right (And.right (by assumption)))) | exact And.left (And.right (And.right (And.right (And.right (by assumption))))) | exact And.left (And.right (And.right (And.right (And.right (And.right (by assumption)))))) | exact And.left (And.right (And.right (And.right (And.right (And.right (And.right (by assumption))))))) | exact And.left (And.right (And.right (And.right (And.right (And.right (And.right (And.right (by assumption)))))))) | exact And.left (And.right (And.right (And.right (And.right (And.right (And.right (And.right (And.right (by assumption))))))))) | exact And.left (And.right (And.right (And.right (And.right (And.right (And.right (And.right (And.right (And.right (by assumption)))))))))) | exact And.left (And.right (And.right (And.right (And.right (And.right (And.right (And.right (And.right (And.right (And.right (by assumption))))))))))) | exact And.left (And.right (And.right (And.right (And.right (And.right (And.right (And.right (And.right (And.right (And.right (And.right (by assumption)))))))))))) | exact And.left (And.right (And.right (And.right (And.right (And.right (And.right (And.right (And.right (And.right (And.right (And.right (And.right (by assumption))))))))))))) | exact And.left (And.right (And.right (And.right (And.right (And.right (And.right (And.right (And.right (And.right (And.right (And.right (And.right (And.right (by assumption))))))))))))))))
  (k_with "k_ne" => ((refine neN ?_; (try dsimp only); first | assumption | exact fun kwe9 => absurd kwe9.symm (by assumption) | exact ne_up1 | exact up_ne1 | exact ne_up2 | exact up_ne2 | exact ne_up3 | exact up_ne3 | exact ne_up4 | exact up_ne4 | exact ne_up5 | exact up_ne5 | exact ne_up6 | exact up_ne6 | exact ne_up7 | exact up_ne7 | exact Nat.ne_of_gt (by k_extra "andf") | exact Nat.ne_of_lt (by k_extra "andf") | omega)))
  (k_with "ktr_rel" => (first | exact List.mem_cons_self | ktr_member | (refine List.mem_cons_of_mem _ ?_; ktr_rel) | (refine List.mem_append.mpr (Or.inl ?_); ktr_rel) | (refine List.mem_append.mpr (Or.inr ?_); ktr_rel)))
  trivial
/-- the base's __init__ upon an own exception -/
theorem exc_init0 (Fn : ExcBaseFacts Bn nwId inId bmN) (hB : bm.contains (.type Bn) = true) (hC : h.get? C = some (excClassObj nm q C N bs bm hdct sn sub ab col dd k0 k1 k2 k3 k5 newId)) {e t0 : Addr} {rest : List Value} (he : h.get? e = some (excO C t0 none)) (hrest : rest.length ≤ sizeLine)
    (hq : Q .none ⟨(h.push (excT rest)).update e (Obj.mapFields (·.setIfInBounds 0 (.ref h.objs.size))), g, d, t, os⟩) : wpAny (model prog w) A (call (.builtin inId) (.ref e :: rest)) Q E ⟨h, g, d, t, os⟩ := by
  have c1 : (Value.ref C :: bm).contains (.type Bn) = true := by rw [List.contains_cons, hB, Bool.or_true]
  have chk : ∀ {A' : Around} {Q' : Unit → Shared → Prop} {E' : Value → Shared → Prop}, Q' () ⟨h, g, d, t, os⟩ → wpAny (model prog w) A' (checkBuiltinCall inId ⟨.ref e :: rest, []⟩) Q' E' ⟨h, g, d, t, os⟩ := by
    intro A' Q' E' hq'
    have e1 := Fn.noStar
    simp only [checkBuiltinCall, Fn.initKind, Fn.initSplit, Fn.initRow]
    repeat (first | (with_reducible refine wpAny_loadPart_at he ?_) | with_reducible refine wpAny_loadPart_at hC ?_ | (with_reducible refine wpAny_isSubtype_exc hC ?_; rw [c1]) | wp_step)
    refine wpAny_onRaise ?_
    rw [show ∀ (a b : String) (n : Nat), Bind.check ⟨.positional, "*", Bn, .self, [⟨"args", .varPos, false⟩]⟩ a b n (List.map (fun x => x.fst) ({ pos := Value.ref e :: rest } : Args).kw) = pure () from
      fun a b n => check_star_args _ _ _ _ _ _]
    exact wpAny_pure hq'
  refine wpAny_call (codeAny_call_builtin Fn.init.plain Fn.initEntry (chk ?_))
  wp_walk
  exact hq
end
section
open PyProof.Rows
variable {prog : Program} {w : World} {A : Around} {E : Value → Shared → Prop} {Q : Value → Shared → Prop} {s : Shared} {h₀ : Heap} {L : Addr} {m : Str → Option Value} {news : List (Addr × Obj)}
variable {nm q : Str} {C N : Addr} {bs bm bmN : List Value} {hdct : Bool} {sn : List Str} {sub : List Value} {ab : Bool} {col : Option Bool} {dd : Option Addr} {k0 k1 k2 k3 k5 : Option Value} {Bn newId nwId inId : String}
theorem exc_init (Fn : ExcBaseFacts Bn nwId inId bmN) (hB : bm.contains (.type Bn) = true) (hC : s.heap.get? C = some (excClassObj nm q C N bs bm hdct sn sub ab col dd k0 k1 k2 k3 k5 newId)) {e t0 : Addr} {rest : List Value}
    (F : Fr h₀ L s.heap m) (Nw : News h₀ L s.heap ((e, excO C t0 none) :: news)) (hne : ∀ p ∈ news, @Ne Nat p.1 e) (hrest : rest.length ≤ sizeLine)
    (ret : ∀ t1 h', Fr h₀ L h' m → News h₀ L h' ((e, excO C t1 none) :: (t1, excT rest) :: news) → (∀ p ∈ news, p.1 < t1) → @LT.lt Nat _ e t1 → Q .none { s with heap := h' }) : wpAny (model prog w) A (call (.builtin inId) (.ref e :: rest)) Q E s := by
  obtain ⟨h, g, d, t, os⟩ := s
  have he := Nw _ List.mem_cons_self
  have lt : @LT.lt Nat _ e h.objs.size := Heap.lt_size he.1
  have F1 := F.push (excT rest)
  have N1 := Nw.push F (excT rest)
  refine exc_init0 Fn hB hC he.1 hrest ?_
  refine ret h.objs.size _ (F1.change (Heap.SameBut.update ..) he.2.1 he.2.2) (fun p hp => ?_) (fun p hp => Heap.lt_size (Nw p (List.mem_cons_of_mem _ hp)).1) lt
  rcases List.mem_cons.mp hp with rfl | hp
  · exact ⟨Heap.get?_update_self _ (N1 _ (List.mem_cons_of_mem _ List.mem_cons_self)).1 rfl, he.2⟩
  · rcases List.mem_cons.mp hp with rfl | hp
    · have z := N1 (h.objs.size, excT rest) List.mem_cons_self
      exact ⟨(Heap.get?_update_other _ _ (show @Ne Nat e h.objs.size by omega)).trans z.1, z.2⟩
    · have z := N1 p (List.mem_cons_of_mem _ (List.mem_cons_of_mem _ hp))
      exact ⟨(Heap.get?_update_other _ _ (Ne.symm (hne p hp))).trans z.1, z.2⟩
end
end
section
section
open Builtin Builtin.ObjectAttr
open PyProof.Rows
variable {prog : Program} {w : World} {A : Around} {E : Value → Shared → Prop} {Q : Unit → Shared → Prop} {s : Shared} {h₀ : Heap} {L : Addr} {m : Str → Option Value} {news : List (Addr × Obj)}
theorem kwP64_1 : True := by
  w_top off
  k_with_none
  (k_with "andf" => (first | assumption | exact And.left (by assumption) | exact And.left (And.right (by assumption)) | exact And.left (And.right (And.right (by assumption))) | exact And.left (And.right (And.right (And.right (by assumption)))) | exact And.left (And.right (And.right (And.right (And.right (by assumption))))) | exact And.left (And.right (And.right (And.right (And.right (And.right (by assumption)))))) | exact And.left (And.right (And.right (And.right (And.right (And.right (And.right (by assumption))))))) | exact And.left (And.right (And.right (And.right (And.right (And.right (And.right (And.right (by assumption)))))))) | exact And.left (And.right (And.right (And.right (And.right (And.right (And.right (And.right (And.right (by assumption))))))))) | exact And.left (And.right (And.right (And.right (And.right (And.right (And.right (And.right (And.right (And.right (by assumption)))))))))) | exact And.left (And.right (And.right (And.right (And.right (And.right (And.right (And.right (And.right (And.right (And.right (by assumption))))))))))) | exact And.left (And.right (And.right (And.right (And.right (And.right (And.right (And.right (And.right (And.right (And.right (And.right (by assumption)))))))))))) | exact And.left (And.right (And.right (And.right (And.right (And.right (And.right (And.right (And.right (And.right (And.right (And.right (And.right (by assumption))))))))))))) | exact And.left (And.right (And.right (And.right (And.right (And.right (And.right (And.right (And.right (And.right (And.right (And.right (And.right (And.right (by assumption))))))))))))))))
  (k_with "k_ne" => ((refine neN ?_; (try dsimp only); first | assumption | exact fun kwe9 => absurd kwe9.symm (by assumption) | exact ne_up1 | exact up_ne1 | exact ne_up2 | exact up_ne2 | exact ne_up3 | exact up_ne3 | exact ne_up4 | exact up_ne4 | exact ne_up5 | exact up_ne5 | exact ne_up6 | exact up_ne6 | exact ne_up7 | exact up_ne7 | exact Nat.ne_of_gt (by k_extra "andf") | exact Nat.ne_of_lt (by k_extra "andf") | omega)))
  (k_with "ktr_rel" => (first | exact List.mem_cons_self | ktr_member | (refine List.mem_cons_of_mem _ ?_; ktr_rel) | (refine List.mem_append.mpr (Or.inl ?_); ktr_rel) | (refine List.mem_append.mpr (Or.inr ?_); ktr_rel)))
  trivial
/-- an own exception bears its first attribute: a dict is made for it -/
theorem exc_set {K : Frag} {C e t : Addr} {name : Str} {v : Value} {r1 : Addr} {cd : ClassData} (F : Fr h₀ L s.heap m) (X₀ : K.In h₀) (N : News h₀ L s.heap ((e, excO C t none) :: news)) (hne : ∀ p ∈ news, @Ne Nat p.1 e)
    (hcd : clsIn K C = some cd) (hmro : cd.mro = [.ref C, .ref r1, .type "Exception", .type "BaseException", .type "object"]) (hhd : cd.hasDict = true)
    (hs : findIn K (.ref C) "__setattr__" = some (some (.builtin "object.__setattr__"))) (ha : findIn K (.ref C) name = some none) (ho : mroIn K C (.type "object") = some true)
    (ret : ∀ de th h' tk', Fr h₀ L h' m → News h₀ L h' ((e, excO C t (some de)) :: (de, dictOf [⟨PyData.keyHash w.params name, .str name th, v⟩] 1) :: news) → (∀ p ∈ news, p.1 < de) → @LT.lt Nat _ e de → Q () { s with heap := h', toks := tk' }) :
    wpAny (model prog w) A (setAttr (.ref e) name v) Q E s := by
  have X := X₀.keeps F.keep
  have he := N _ List.mem_cons_self
  have I : InstAt s.heap e (excO C t none) C none := ⟨he.1, rfl, rfl, trivial⟩
  refine set_plain X I hs ?_
  have SF := PySem.F.store_Exception
  have sub : Looks (model prog w) s.heap (isInstance (.ref e) (.type "object")) true := I.type.andThen (looks_mroIn X ho)
  refine codeAny_call_builtin SF.slot.plain SF.entry (@check_slot (model prog w) _ _ { s with toks := s.toks + 1 } "object.__setattr__" "object" "__setattr__" (.ref e) [.str name s.toks, v] [] _ SF.kind SF.split sub (SF.args (.ref e) (.str name s.toks) v) ?_)
  have hm : Looks (model prog w) s.heap (mroOf (.ref C)) cd.mro := (looks_clsIn X hcd).andThen .now
  rw [hmro] at hm
  rw [osa_eq, refuse_eq]
  refine wpAny_bind (wpAny_bind (I.type.here (s := { s with toks := s.toks + 1 }) (wpAny_bind (hm.here (s := { s with toks := s.toks + 1 }) ?_))))
  rw [refuseLoop_ref, refuseLoop_ref, SF.passes]
  refine wpAny_pure (wpAny_bind (I.type.here (s := { s with toks := s.toks + 1 }) (wpAny_bind ((looks_findIn X ha).here (s := { s with toks := s.toks + 1 }) (wpAny_bind (wpAny_pure ?_))))))
  show wpAny _ _ (storeInOwnDict (.ref e) (.ref C) (.str name s.toks) name v false) _ _ _
  unfold storeInOwnDict
  refine wpAny_bind (wpAny_pure (wpAny_bind ?_))
  show wpAny _ _ (instanceDict e true) _ _ _
  unfold instanceDict
  refine wpAny_bind (wpAny_loadPart he.1 (wpAny_bind ((looks_clsIn X hcd).here (s := { s with toks := s.toks + 1 }) ?_)))
  rw [hhd]
  refine wpAny_bind (wpAny_alloc ?_)
  have F1 := F.push emptyDict
  have N1 := N.push F emptyDict
  have lt : @LT.lt Nat _ e s.heap.objs.size := Heap.lt_size he.1
  refine wpAny_bind (wpAny_update (N1 _ (List.mem_cons_of_mem _ List.mem_cons_self)).1 (wpAny_pure ?_))
  have F2 := F1.change (Heap.SameBut.update (s.heap.push emptyDict) e (fun o => { o with dict := some s.heap.objs.size })) he.2.1 he.2.2
  have N2 : News h₀ L ((s.heap.push emptyDict).update e (fun o => { o with dict := some s.heap.objs.size })) ((e, excO C t (some s.heap.objs.size)) :: (s.heap.objs.size, emptyDict) :: news) := fun p hp => by
    rcases List.mem_cons.mp hp with rfl | hp
    · exact ⟨Heap.get?_update_self _ (N1 _ (List.mem_cons_of_mem _ List.mem_cons_self)).1 rfl, he.2⟩
    · rcases List.mem_cons.mp hp with rfl | hp
      · have z := N1 (s.heap.objs.size, emptyDict) List.mem_cons_self
        exact ⟨(Heap.get?_update_other _ _ (show @Ne Nat e s.heap.objs.size by omega)).trans z.1, z.2⟩
      · have z := N1 p (List.mem_cons_of_mem _ (List.mem_cons_of_mem _ hp))
        exact ⟨(Heap.get?_update_other _ _ (Ne.symm (hne p hp))).trans z.1, z.2⟩
  have l1 : ∀ p ∈ news, p.1 < s.heap.objs.size := fun p hp => Heap.lt_size (N p (List.mem_cons_of_mem _ hp)).1
  generalize hH : (s.heap.push emptyDict).update e (fun o => { o with dict := some s.heap.objs.size }) = H at F2 N2 ⊢
  obtain ⟨de, hde⟩ : ∃ z, z = s.heap.objs.size := ⟨_, rfl⟩
  rw [← hde] at N2 lt l1 ⊢
  have d1 := N2 (de, emptyDict) (by simp)
  have dn : @Ne Nat e de := by omega
  show wpAny _ _ (storeInDict de (.str name s.toks) name v) _ _ _
  unfold storeInDict
  refine wpAny_bind (wpAny_pure (wpAny_bind ?_))
  unfold nsSet
  refine wpAny_bind (wpAny_bind (wpAny_askSetting (wpAny_pure (wpAny_bind (wpAny_mkText (wpAny_bind (wpAny_loadPart d1.1 ?_)))))))
  show wpAny _ _ (updatePart de _ _) _ _ _
  refine wpAny_updatePart d1.1 ?_
  have F3 := F2.change (Heap.SameBut.update H de (Obj.putName name (PyData.keyHash w.params name) (.str name (s.toks + 1)) v)) d1.2.1 d1.2.2
  have d3 : (H.update de (Obj.putName name (PyData.keyHash w.params name) (.str name (s.toks + 1)) v)).get? de = some (dictOf [⟨PyData.keyHash w.params name, .str name (s.toks + 1), v⟩] 1) := by
    rw [Heap.get?_update_self _ d1.1 (by rfl)]; rfl
  refine wpAny_bind (wpAny_lookBehind d3 (by exact pastItsLine_dict (by rw [List.size_toArray, sizeLine_eq]; simp)) ?_)
  refine wpAny_pure (ret de (s.toks + 1) _ _ F3 (fun p hp => ?_) l1 lt)
  rcases List.mem_cons.mp hp with rfl | hp
  · have z := N2 (e, excO C t (some de)) List.mem_cons_self
    exact ⟨(Heap.get?_update_other _ _ (Ne.symm dn)).trans z.1, z.2⟩
  · rcases List.mem_cons.mp hp with rfl | hp
    · exact ⟨d3, d1.2⟩
    · have z := N2 p (List.mem_cons_of_mem _ (List.mem_cons_of_mem _ hp))
      have l9 : @LT.lt Nat _ p.1 de := l1 p hp
      exact ⟨(Heap.get?_update_other _ _ (show @Ne Nat de p.1 by omega)).trans z.1, z.2⟩
end
end
section
section
open PyProof.Rows
variable {prog : Program} {w : World} {A₀ A : Around} {s : Shared} {h₀ : Heap} {L : Addr} {m : Str → Option Value} {news : List (Addr × Obj)} {K : Frag} {p : Program} {loose : List Str} {mean : ExcName → Option Value} {mg mb : Str → Option Value}
  {R : Result → Shared → Prop} {name qual : Str} {params : Arguments} {body : List Stmt} {scope : Scope} {dV kV doc pm cdv ct oc : Value} {an od : Option Addr} {osl : Array (Option Value)} {f : Addr} {args : Args} {binds : List (Str × Value)} {env : Env}
theorem kwP65_1 : True := by
  w_top off
  k_with_none
  (k_with "andf" => (first | assumption | exact And.left (by assumption) | exact And.left (And.right (by assumption)) | exact And.left (And.right (And.right (by assumption))) | exact And.left (And.right (And.right (And.right (by assumption)))) | exact And.left (And.right (And.right (And.right (And.right (by assumption))))) | exact And.left (And.right (And.right (And.right (And.right (And.right (by assumption)))))) | exact And.left (And.right (And.right (And.right (And.right (And.right (And.right (by assumption))))))) | exact And.left (And.right (And.right (And.right (And.right (And.right (And.right (And.right (by assumption)))))))) | exact And.left (And.right (And.right (And.right (And.right (And.right (And.right (And.right (And.right (by assumption))))))))) | exact And.left (And.right (And.right (And.right (And.right (And.right (And.right (And.right (And.right (And.right (by assumption)))))))))) | exact And.left (And.right (And.right (And.right (And.right (And.right (And.right (And.right (And.right (And.right (And.right (by assumption))))))))))) | exact And.left (And.right (And.right (And.right (And.right (And.right (And.right (And.right (And.right (And.right (And.right (And.right (by assumption)))))))))))) | exact And.left (And.right (And.right (And.right (And.right (And.right (And.right (And.right (And.right (And.right (And.right (And.right (And.right (by assumption))))))))))))) | exact And.left (And.right (And.right (And.right (And.right (And.right (And.right (And.right (And.right (And.right (And.right (And.right (And.right (And.right (by assumption))))))))))))))))
  (k_with "k_ne" => ((refine neN ?_; (try dsimp only); first | assumption | exact fun kwe9 => absurd kwe9.symm (by assumption) | exact ne_up1 | exact up_ne1 | exact ne_up2 | exact up_ne2 | exact ne_up3 | exact up_ne3 | exact ne_up4 | exact up_ne4 | exact ne_up5 | exact up_ne5 | exact ne_up6 | exact up_ne6 | exact ne_up7 | exact up_ne7 | exact Nat.ne_of_gt (by k_extra "andf") | exact Nat.ne_of_lt (by k_extra "andf") | omega)))
  (k_with "ktr_rel" => (first | exact List.mem_cons_self | ktr_member | (refine List.mem_cons_of_mem _ ?_; ktr_rel) | (refine List.mem_append.mpr (Or.inl ?_); ktr_rel) | (refine List.mem_append.mpr (Or.inr ?_); ktr_rel)))
  trivial
/-- a def entered from a frame of any kind that stands alone: its own raise may turn that frame's slots -/
theorem enter_alone (F : Fr h₀ L s.heap m) (X₀ : K.In h₀) (N : News h₀ L s.heap news) (T : Top p loose mean mg mb h₀) (hA : A.frames = some [env]) (hf : env.frame = some L) (hke : env.scope.kind ≠ .module)
    (ho : K.lookup f = some ⟨oc, od, .func (fnOf name qual params body scope dV kV doc pm an cdv ct), osl⟩) (hcd : codeIn K cdv qual = true) (hroom : A.depth < recursionLimit)
    (hbind : BindsTo s (fnOf name qual params body scope dV kV doc pm an cdv ct) args binds) (hloc : ∀ y ∈ binds, scope.names.lookup y.1 = some .local)
    (h : ∀ g L' h₁, Fr h₀ L g m → Fr g L' h₁ (fun y => binds.reverse.lookup y) → News g L' h₁ news → Below A h₀ [env] g → K.In g → Top p loose mean mg mb g → KtsDicts ([env].filterMap (·.frame)) g →
      wpAny (model prog w) (A.deeper (envOf qual scope L' f cdv)) (execs body (envOf qual scope L' f cdv)) (fun fl s' => LeaveS0 ([env].filterMap (·.frame)) h₀ L m g R (match fl with | .ret v => v | _ => .none) s')
        (fun e s' => wpAny (model prog w) (A.deeper (envOf qual scope L' f cdv)) (leaving (envOf qual scope L' f cdv) e) (fun _ s'' => R (.error e) s'') (fun e' s'' => R (.error e') s'') s')
        { s with heap := h₁, toks := s.toks + binds.length })
    (hco : scope.isCoroutine = false) (hgen : scope.isGenerator = false) (hk : scope.kind = .function) (hcell : ∀ x ∈ scope.names, x.2 ≠ .cell) : codeAny (model prog w) A (.call (.ref f) args) R s := by
  have X := X₀.keeps F.keep
  have hfs : [env].filterMap (·.frame) = [L] := by simp [hf]
  obtain ⟨oL, es, ep, hL, hLd, hLr⟩ := F.ns
  have nL : L ∉ news.map (·.1) := fun q => by
    obtain ⟨p, hp, e⟩ := List.mem_map.mp q
    exact (N p hp).2.1 e
  obtain ⟨G, hG⟩ : ∃ G, G = hideAll s.heap (news.map (·.1)) := ⟨_, rfl⟩
  have st : ∀ b o, h₀.get? b = some o → G.get? b = some o := fun b o e => hG ▸ hideAll_get _ (F.keep b o e) fun q => by
    obtain ⟨p, hp, rfl⟩ := List.mem_map.mp q
    rw [(N p hp).2.2] at e
    cases e
  have gL : G.get? L = some oL := hG ▸ hideAll_get (news.map (·.1)) hL nL
  have gof : ∀ b o, G.get? b = some o → s.heap.get? b = some o := fun b o e => of_hideAll (news.map (·.1)) (hG ▸ e)
  have gsz : G.objs.size = s.heap.objs.size := hG ▸ hideAll_size _ _
  have gno : ∀ p ∈ news, G.get? p.1 = none := fun p hp => hG ▸ hideAll_none _ (List.mem_map_of_mem hp)
  have nL₀ : h₀.get? L = none := kts_self F
  have nsg : G.Ns L m := ⟨oL, es, ep, gL, hLd, hLr⟩
  refine codeAny_call_def (fd := fnOf name qual params body scope dV kV doc pm an cdv ct) (body := body) (binds := binds) hroom (X _ _ ho) rfl (T.nolimit.keeps F.keep) (codeRec_of X hcd) rfl hbind hcell hloc (fun h₁ hns hk₁ => ?_) hco hgen hk
  refine wpAny_mono (h G s.heap.objs.size h₁ ⟨nsg, st, F.above⟩ ⟨hns, fun b o e => hk₁ b o (gof b o e), Nat.le_of_eq gsz⟩
    (fun p hp => ⟨hk₁ _ _ (N p hp).1, Nat.ne_of_lt (Heap.lt_size (N p hp).1), gno p hp⟩) ⟨hA, st, Heap.FunFrames.cons hke hf nsg nL₀ trivial⟩ (X₀.keeps st) (T.keeps st) (fun b hb => ?_)) (fun fl s' hl => ?_) fun _ _ y => y
  · rw [hfs] at hb
    rw [List.mem_singleton.mp hb]
    exact ⟨oL, es, ep, gL, hLd⟩
  · obtain ⟨g', L', m', news', T', F', N', k⟩ := hl
    rw [hfs] at T'
    obtain ⟨sl, hs⟩ := T'.up gL
    refine k ⟨⟨_, es, ep, F'.keep _ _ hs, hLd, hLr⟩, fun b o e => F'.keep b o (T'.other b o (st b o e) fun q => ?_), F.above⟩ fun p hp => ⟨(N' p hp).1, fun q => ?_, ?_⟩
    · rw [List.mem_singleton.mp q, nL₀] at e
      cases e
    · have z := (N' p hp).2.2
      rw [q, hs] at z
      cases z
    · cases q : h₀.get? p.1 with
      | none => rfl
      | some o =>
        obtain ⟨sl', hs'⟩ := T'.up (st _ _ q)
        have z := (N' p hp).2.2
        rw [hs'] at z
        cases z
end
section
open PyProof.Rows
variable {M : Model} {A : Around} {E : Value → Shared → Prop} {s' : Shared} {base g h : Heap} {outer : List Env} {L a e t C : Addr} {m : Str → Option Value} {name : Str} {scope : Scope} {cd : Value} {Q : Unit → Shared → Prop} {news : List (Addr × Obj)} {dd : Option Addr} {vs : List Value}
/-- an own exception leaves the frame that raised it -/
theorem leave_own (K : Below A base outer g) (F : Fr g L s'.heap m) (N : News g L s'.heap ((e, excO C t dd) :: (t, excT vs) :: news)) (h1 : ∀ p ∈ news, @Ne Nat p.1 e ∧ @Ne Nat p.1 t)
    (hQ : ∀ h', RaisedS base g outer e (.ref C) t vs news h' → g.UpToSlots h' → Q () { s' with heap := h' }) (hk : scope.kind = .function := by rfl) :
    wpAny M (A.deeper (envOf name scope L a cd)) (leaving (envOf name scope L a cd) (.ref e)) Q E s' := by
  have he := N _ List.mem_cons_self
  have ht := N (t, excT vs) (by simp)
  have K' := K.push (name := name) (a := a) (cd := cd) F hk
  have old : ∀ b, g.get? b = none → base.get? b = none := fun b hb => fresh_of_stays K.stays hb
  have eL : ∀ b, b ∈ (envOf name scope L a cd :: outer).filterMap (·.frame) → base.get? b = none := fun b hb => (K'.frames.mem hb).1
  have hin : ∀ env ∈ (envOf name scope L a cd :: outer), ∀ b, env.frame = some b → b ∈ (envOf name scope L a cd :: outer).filterMap (·.frame) ++ [e, t] := fun env he b hb => List.mem_append_left _ (List.mem_filterMap.mpr ⟨env, he, hb⟩)
  have inE : ∀ b, b ∈ (envOf name scope L a cd :: outer).filterMap (·.frame) ++ [e, t] → b ∈ (envOf name scope L a cd :: outer).filterMap (·.frame) ∨ b = e ∨ b = t := fun b hb => by simpa using hb
  have frN : ∀ q : Addr × Obj, q ∈ (e, excO C t dd) :: (t, excT vs) :: news → q.1 ∉ (envOf name scope L a cd :: outer).filterMap (·.frame) := fun q hq hm => by
    rcases kts_mem hm with z | z
    · exact (N q hq).2.1 z
    · obtain ⟨o, ho, _⟩ := (K.frames.mem z).2
      rw [(N q hq).2.2] at ho
      cases ho
  refine wpAny_leaving_firstW (base := hideAll s'.heap ((envOf name scope L a cd :: outer).filterMap (·.frame) ++ [e, t])) (a0 := .ref t) K'.stack (funFrames_hide K'.frames hin) rfl he.1 (fun b o q => of_hideAll _ q) (hideAll_none _ (by simp)) rfl rfl rfl fun h' hL => ?_
  obtain ⟨k1, ⟨_, _, k2⟩, k3, k4⟩ := hL
  refine hQ h' ⟨⟨_, fun b o q => hideAll_get _ (F.keep b o (K.stays b o q)) fun hm => ?_, fun b o q nm => hideAll_get _ (F.keep b o q) fun hm => ?_, fun q hq => ⟨hideAll_get _ (N q (by simp [hq])).1 fun hm => ?_, (N q (by simp [hq])).2.2, old _ (N q (by simp [hq])).2.2⟩,
    ⟨k1, hideAll_none _ (by simp), k2, k3⟩, hideAll_none _ (by simp)⟩, Heap.TupAt.of_slots ⟨_, _, ht.1, rfl, rfl⟩ k4⟩ ((Heap.UpToSlots.of_keeps F.keep).trans k4)
  · rcases inE b hm with z | rfl | rfl
    · rw [eL b z] at q; cases q
    · rw [old _ he.2.2] at q; cases q
    · rw [old _ ht.2.2] at q; cases q
  · rcases inE b hm with z | rfl | rfl
    · rcases kts_mem z with z | z
      · rw [z, kts_self F] at q; cases q
      · exact nm z
    · rw [he.2.2] at q; cases q
    · rw [ht.2.2] at q; cases q
  · rcases inE q.1 hm with z | z | z
    · exact frN q (by simp [hq]) z
    · exact (h1 q hq).1 z
    · exact (h1 q hq).2 z
end
end
section
section
variable {w : World} {p : Program} {loose : List Str} {mean : ExcName → Option Value} {mg mb : Str → Option Value} {dp un : Nat} {gd : Option (List Code)} {cn : Str} {cs : Scope} {a : Addr} {ccd : Value} {cl : List (Str × Addr)} {outer : List Env} {A₀ : Around} {base h₀ : Heap} {L : Addr} {m : Str → Option Value} {news : List (Addr × Obj)} {s : Shared} {Q E : Value → Shared → Prop}
section
theorem kwC49_1 : True := by
  w_top off
  k_with_none
  (k_with "andf" => (first | assumption | exact And.left (by assumption) | exact And.left (And.right (by assumption)) | exact And.left (And.right (And.right (by assumption))) | exact And.left (And.right (And.right (And.right (by assumption)))) | exact And.left (And.right (And.right (And.right (And.right (by assumption))))) | exact And.left (And.right (And.right (And.right (And.right (And.right (by assumption)))))) | exact And.left (And.right (And.right (And.right (And.right (And.right (And.right (by assumption))))))) | exact And.left (And.right (And.right (And.right (And.right (And.right (And.right (And.right (by assumption)))))))) | exact And.left (And.right (And.right (And.right (And.right (And.right (And.right (And.right (And.right (by assumption))))))))) | exact And.left (And.right (And.right (And.right (And.right (And.right (And.right (And.right (And.right (And.right (by assumption)))))))))) | exact And.left (And.right (And.right (And.right (And.right (And.right (And.right (And.right (And.right (And.right (And.right (by assumption))))))))))) | exact And.left (And.right (And.right (And.right (And.right (And.right (And.right (And.right (And.right (And.right (And.right (And.right (by assumption)))))))))))) | exact And.left (And.right (And.right (And.right (And.right (And.right (And.right (And.right (And.right (And.right (And.right (And.right (And.right (by assumption))))))))))))) | exact And.left (And.right (And.right (And.right (And.right (And.right (And.right (And.right (And.right (And.right (And.right (And.right (And.right (And.right (by assumption))))))))))))))))
  (k_with "k_ne" => ((refine neN ?_; (try dsimp only); first | assumption | exact fun kwe9 => absurd kwe9.symm (by assumption) | exact ne_up1 | exact up_ne1 | exact ne_up2 | exact up_ne2 | exact ne_up3 | exact up_ne3 | exact ne_up4 | exact up_ne4 | exact ne_up5 | exact up_ne5 | exact ne_up6 | exact up_ne6 | exact ne_up7 | exact up_ne7 | exact Nat.ne_of_gt (by k_extra "andf") | exact Nat.ne_of_lt (by k_extra "andf") | omega)))
  (k_with "ktr_rel" => (first | exact List.mem_cons_self | ktr_member | (refine List.mem_cons_of_mem _ ?_; ktr_rel) | (refine List.mem_append.mpr (Or.inl ?_); ktr_rel) | (refine List.mem_append.mpr (Or.inr ?_); ktr_rel)))
  (k_with "size_fits" => (((simp only [List.size_toArray, PySem.sizeLine_eq]); omega)))
  trivial
theorem meta_Exc : typeOf (.type "Exception") = pure (.type "type") := by first | rfl | kernel_rfl
theorem kwC49_2 : True := by
  w_top off
  k_with_none
  (k_with "andf" => (first | assumption | exact And.left (by assumption) | exact And.left (And.right (by assumption)) | exact And.left (And.right (And.right (by assumption))) | exact And.left (And.right (And.right (And.right (by assumption)))) | exact And.left (And.right (And.right (And.right (And.right (by assumption))))) | exact And.left (And.right (And.right (And.right (And.right (And.right (by assumption)))))) | exact And.left (And.right (And.right (And.right (And.right (And.right (And.right (by assumption))))))) | exact And.left (And.right (And.right (And.right (And.right (And.right (And.right (And.right (by assumption)))))))) | exact And.left (And.right (And.right (And.right (And.right (And.right (And.right (And.right (And.right (by assumption))))))))) | exact And.left (And.right (And.right (And.right (And.right (And.right (And.right (And.right (And.right (And.right (by assumption)))))))))) | exact And.left (And.right (And.right (And.right (And.right (And.right (And.right (And.right (And.right (And.right (And.right (by assumption))))))))))) | exact And.left (And.right (And.right (And.right (And.right (And.right (And.right (And.right (And.right (And.right (And.right (And.right (by assumption)))))))))))) | exact And.left (And.right (And.right (And.right (And.right (And.right (And.right (And.right (And.right (And.right (And.right (And.right (And.right (by assumption))))))))))))) | exact And.left (And.right (And.right (And.right (And.right (And.right (And.right (And.right (And.right (And.right (And.right (And.right (And.right (And.right (by assumption))))))))))))))))
  (k_with "k_ne" => ((refine neN ?_; (try dsimp only); first | assumption | exact fun kwe9 => absurd kwe9.symm (by assumption) | exact ne_up1 | exact up_ne1 | exact ne_up2 | exact up_ne2 | exact ne_up3 | exact up_ne3 | exact ne_up4 | exact up_ne4 | exact ne_up5 | exact up_ne5 | exact ne_up6 | exact up_ne6 | exact ne_up7 | exact up_ne7 | exact Nat.ne_of_gt (by k_extra "andf") | exact Nat.ne_of_lt (by k_extra "andf") | omega)))
  (k_with "ktr_rel" => (first | exact List.mem_cons_self | ktr_member | (refine List.mem_cons_of_mem _ ?_; ktr_rel) | (refine List.mem_append.mpr (Or.inl ?_); ktr_rel) | (refine List.mem_append.mpr (Or.inr ?_); ktr_rel)))
  (k_with "size_fits" => (((simp only [List.size_toArray, PySem.sizeLine_eq]); omega)))
  (k_with "getMethod type:Exception" => ((k_here; refine method_type (by k_asm) (by k_asm) (by exact meta_Exc) (by decide +kernel) (by k_dflt k_is) (by k_handed) ?_)))
  trivial
theorem excAt61 {h : Heap} {w : World} (X : (hd.heap_1 w.params).In h) : ∃ nm q bs hdct sn sub ab col dd k0 k1 k2 k3 k5, h.get? 61 = some (excClassObj nm q 61 60 bs [.ref 48, .type "Exception", .type "BaseException", .type "object"] hdct sn sub ab col dd k0 k1 k2 k3 k5 "Exception.__new__") :=
  ⟨_, _, _, _, _, _, _, _, _, _, _, _, _, _, X _ _ rfl⟩
theorem press_spec {msg : Str} {tm : Tok}
  (B : Below A₀ base outer h₀) (F : Fr h₀ L s.heap m) (X : (hd.heap_1 w.params).In h₀) (N : News h₀ L s.heap news) (T : Top p loose mean mg mb h₀) (hk : cs.kind = .function)
  (hdp : dp + 6 < recursionLimit) (hun : un + 40 < cLine)
  (ret : ∀ e t1 de h' tk', Fr h₀ L h' m → News h₀ L h' ((e, excO 61 t1 (some de)) :: (t1, excT [.str msg tm]) :: news) → (∀ p ∈ news, @Ne Nat p.1 e ∧ @Ne Nat p.1 t1) → Q (.ref e) { s with heap := h', toks := tk' }) :
  wpAny (model PySem.Challenge.rw_ok0141_01.row.prog w) (ktrTop dp un gd cn cs L a ccd cl outer) (call (.ref 61) [.str msg tm]) Q E s := by
  have hfill : PySem.Challenge.rw_ok0141_01 = PySem.Challenge.rw_ok0141_01 ∧ hd.heap_1 = hd.heap_1 := by k_fill; exact ⟨rfl, rfl⟩
  clear hfill
  obtain ⟨nm, q, bs, hdct, sn, sub, ab, col, dd, k0, k1, k2, k3, k5, hC⟩ := excAt61 (X.keeps F.keep)
  refine wpAny_call ?_
  obtain ⟨hh, g, d, t, os⟩ := s
  refine exc_make PySem.F.excBase_Exception (by decide +kernel) (by decide +kernel) (by decide +kernel) hC (X.keeps F.keep) (by k_is) (by k_is) (by k_is) (by k_is) ?_ (by simp [sizeLine_eq])
  have F1 := (F.push (excT [.str msg tm])).push (excO 61 hh.objs.size none)
  have N1 := (N.push F (excT [.str msg tm])).push (F.push _) (excO 61 hh.objs.size none)
  rw [Heap.size_push] at N1
  have l1 : ∀ p ∈ news, p.1 < hh.objs.size := fun p hp => Heap.lt_size (N p hp).1
  generalize hH : (hh.push (excT [.str msg tm])).push (excO 61 hh.objs.size none) = H1 at F1 N1 ⊢
  obtain ⟨t0, ht0⟩ : ∃ z, z = hh.objs.size := ⟨_, rfl⟩
  obtain ⟨e0, he0⟩ : ∃ z, z = t0 + 1 := ⟨_, rfl⟩
  rw [← ht0, ← he0] at N1
  rw [← ht0, ← he0]
  rw [← ht0] at l1
  clear F N hH ht0
  ktr_enter
  k_steps
  (rename Fr _ _ _ _ => F2); (rename News _ _ _ _ => N2); (rename Frag.In _ _ => X2)
  obtain ⟨nm, q, bs, hdct, sn, sub, ab, col, dd, k0, k1, k2, k3, k5, hC2⟩ := excAt61 (X2.keeps F2.keep)
  refine exc_init PySem.F.excBase_Exception (by decide +kernel) hC2 F2 N2 ?_ (by simp [sizeLine_eq]) ?_
  · intro p hp
    rcases List.mem_cons.mp hp with rfl | hp
    · show @Ne Nat t0 e0; omega
    · have l9 : @LT.lt Nat _ p.1 t0 := l1 p hp
      omega
  intro t1 h2 F3 N3 l3 l4
  clear F2 N2
  k_steps
  (rename Fr _ _ _ _ => F4); (rename News _ _ _ _ => N4)
  refine exc_set (C := 61) (r1 := 48) F4 X2 N4 ?_ rfl rfl rfl (by k_is) (by k_is) (by k_is) ?_
  · intro p hp
    rcases List.mem_cons.mp hp with rfl | hp
    · show @Ne Nat t1 e0; omega
    · rcases List.mem_cons.mp hp with rfl | hp
      · show @Ne Nat t0 e0; omega
      · have l9 : @LT.lt Nat _ p.1 t0 := l1 p hp
        omega
  intro de th h5 tk5 F5 N5 l5 l6
  k_steps
  (rename Fr _ _ _ _ => F6); (rename News _ _ _ _ => N6)
  refine ret e0 t1 de _ _ F6 (fun p hp => N6 p ?_) fun p hp => ?_
  · simp only [List.mem_cons] at hp ⊢
    rcases hp with h | h | h <;> simp [h]
  · have l9 : @LT.lt Nat _ p.1 t0 := l1 p hp
    exact ⟨by omega, by omega⟩
end
end
end
section
section
variable {w : World} {p : Program} {loose : List Str} {mean : ExcName → Option Value} {mg mb : Str → Option Value} {dp un : Nat} {gd : Option (List Code)} {cn : Str} {cs : Scope} {a : Addr} {ccd : Value} {cl : List (Str × Addr)} {outer : List Env} {A₀ : Around} {base h₀ : Heap} {L : Addr} {m : Str → Option Value} {news : List (Addr × Obj)} {s : Shared} {Q E : Value → Shared → Prop}

section
theorem kwC50_1 : True := by
  w_top off
  k_with_none
  (k_with "andf" => (first | assumption | exact And.left (by assumption) | exact And.left (And.right (by assumption)) | exact And.left (And.right (And.right (by assumption))) | exact And.left (And.right (And.right (And.right (by assumption)))) | exact And.left (And.right (And.right (And.right (And.right (by assumption))))) | exact And.left (And.right (And.right (And.right (And.right (And.right (by assumption)))))) | exact And.left (And.right (And.right (And.right (And.right (And.right (And.right (by assumption))))))) | exact And.left (And.right (And.right (And.right (And.right (And.right (And.right (And.right (by assumption)))))))) | exact And.left (And.right (And.right (And.right (And.right (And.right (And.right (And.right (And.right (by assumption))))))))) | exact And.left (And.right (And.right (And.right (And.right (And.right (And.right (And.right (And.right (And.right (by assumption)))))))))) | exact And.left (And.right (And.right (And.right (And.right (And.right (And.right (And.right (And.right (And.right (And.right (by assumption))))))))))) | exact And.left (And.right (And.right (And.right (And.right (And.right (And.right (And.right (And.right (And.right (And.right (And.right (by assumption)))))))))))) | exact And.left (And.right (And.right (And.right (And.right (And.right (And.right (And.right (And.right (And.right (And.right (And.right (And.right (by assumption))))))))))))) | exact And.left (And.right (And.right (And.right (And.right (And.right (And.right (And.right (And.right (And.right (And.right (And.right (And.right (And.right (by assumption))))))))))))))))
  (k_with "k_ne" => ((refine neN ?_; (try dsimp only); first | assumption | exact fun kwe9 => absurd kwe9.symm (by assumption) | exact ne_up1 | exact up_ne1 | exact ne_up2 | exact up_ne2 | exact ne_up3 | exact up_ne3 | exact ne_up4 | exact up_ne4 | exact ne_up5 | exact up_ne5 | exact ne_up6 | exact up_ne6 | exact ne_up7 | exact up_ne7 | exact Nat.ne_of_gt (by k_extra "andf") | exact Nat.ne_of_lt (by k_extra "andf") | omega)))
  (k_with "ktr_rel" => (first | exact List.mem_cons_self | ktr_member | (refine List.mem_cons_of_mem _ ?_; ktr_rel) | (refine List.mem_append.mpr (Or.inl ?_); ktr_rel) | (refine List.mem_append.mpr (Or.inr ?_); ktr_rel)))
  (k_with "call ref" => (((with_reducible show wpAny _ _ (call (Value.ref 61) _) _ _ _); k_dflt (refine press_spec (by k_asm) (by k_asm) (by k_asm) (by k_asm) (by k_asm) (by first | rfl | assumption) (by ktr_room) (by ktr_units) ?_); intro kwe kwt kwde kwh kwtk kwF kwN kwo; (try dsimp only))))
  (k_with "size_fits" => (((simp only [List.size_toArray, PySem.sizeLine_eq]); omega)))
  (k_with "exec Raise some none" => ((k_dflt (refine raise_own rfl ?_))))
  trivial
theorem lawkind_arith {x : Addr} {kd mdl : Str} {sd : Int}
  (B : Below A₀ h₀ [] h₀) (F : Fr h₀ L s.heap m) (X : (hd.heap_1 w.params).In h₀) (N : News h₀ L s.heap news) (T : Top p loose mean mg mb h₀) (hk : cs.kind = .function)
  (hS : SetAt news x kd mdl sd) (hkd : kd = ("arith" : Str) ∨ kd = ("arith progressive" : Str)) (hdp : dp + 8 < recursionLimit) (hun : un + 80 < cLine)
  (ret : ∀ t h' tk', Fr h₀ L h' m → News h₀ L h' news → Q (.str ("none" : Str) t) { s with heap := h', toks := tk' }) :
  wpAny (model PySem.Challenge.rw_ok0141_01.row.prog w) (ktrTop dp un gd cn cs L a ccd cl []) (call (.ref 326) [.ref x]) Q E s := by
  have hfill : PySem.Challenge.rw_ok0141_01 = PySem.Challenge.rw_ok0141_01 ∧ hd.heap_1 = hd.heap_1 := by k_fill; exact ⟨rfl, rfl⟩
  clear hfill
  refine hS.elim ?_
  clear hS
  intro dx h1 t1 k1 h2 t2 k2 h3 t3 h4 t4 k4 h5 t5 h6 t6 h7 t7 k7 h8 t8 k8 n a1 a2
  have hkm : (envX cn cs L a ccd cl).scope.kind ≠ .module := by
    show cs.kind ≠ .module
    rw [hk]; decide
  refine wpAny_call ?_
  refine' enter_alone (env := envX cn cs L a ccd cl) ?F ?X ?N ?T rfl rfl hkm ?ho ?hcd ?room ?bind ?loc ?_ ?co ?gen ?kind ?cell
  case F => k_asm
  case X => k_asm
  case N => k_asm
  case T => k_asm
  case ho => k_is
  case hcd => k_is
  case room => ktr_room
  case bind => exact BindsTo.of_eq rfl
  case loc => exact locs rfl
  case co => exact rfl
  case gen => exact rfl
  case kind => exact rfl
  case cell => decide
  intro g' L' h' FG' F' N' B' X' T' D'
  (try dsimp only); (try k_fold)
  rcases hkd with rfl | rfl
  all_goals
    k_steps
    (rename Fr _ _ _ _ => F8); (rename News _ _ _ _ => N8); (rename Below _ _ _ _ => B8); (rename Frag.In _ _ => X8)
    obtain ⟨nm, q, bs, hdct, sn, sub, ab, col, dd, k0, k1, k2, k3, k5, hC8⟩ := excAt61 (X8.keeps F8.keep)
    refine ⟨_, _, _, 61, _, _, _, _, _, _, _, _, _, _, _, _, _, _, _, _, _, rfl, hC8, by decide +kernel, (N8 _ List.mem_cons_self).1, ?_⟩
    show wpAny _ _ (leaving _ _) _ _ _
    refine leave_own B8 F8 N8 (by assumption) ?_ rfl
    intro h9 R9 U9
    k_steps
    exact ret _ _ _ (by assumption) (news_tail (by assumption))
end
end
end
section
section
variable {w : World} {p : Program} {loose : List Str} {mean : ExcName → Option Value} {mg mb : Str → Option Value} {dp un : Nat} {gd : Option (List Code)} {cn : Str} {cs : Scope} {a : Addr} {ccd : Value} {cl : List (Str × Addr)} {outer : List Env} {A₀ : Around} {base h₀ : Heap} {L : Addr} {m : Str → Option Value} {news : List (Addr × Obj)} {s : Shared} {Q E : Value → Shared → Prop}

section
theorem kwC51_1 : True := by
  w_top off
  k_with_none
  (k_with "andf" => (first | assumption | exact And.left (by assumption) | exact And.left (And.right (by assumption)) | exact And.left (And.right (And.right (by assumption))) | exact And.left (And.right (And.right (And.right (by assumption)))) | exact And.left (And.right (And.right (And.right (And.right (by assumption))))) | exact And.left (And.right (And.right (And.right (And.right (And.right (by assumption)))))) | exact And.left (And.right (And.right (And.right (And.right (And.right (And.right (by assumption))))))) | exact And.left (And.right (And.right (And.right (And.right (And.right (And.right (And.right (by assumption)))))))) | exact And.left (And.right (And.right (And.right (And.right (And.right (And.right (And.right (And.right (by assumption))))))))) | exact And.left (And.right (And.right (And.right (And.right (And.right (And.right (And.right (And.right (And.right (by assumption)))))))))) | exact And.left (And.right (And.right (And.right (And.right (And.right (And.right (And.right (And.right (And.right (And.right (by assumption))))))))))) | exact And.left (And.right (And.right (And.right (And.right (And.right (And.right (And.right (And.right (And.right (And.right (And.right (by assumption)))))))))))) | exact And.left (And.right (And.right (And.right (And.right (And.right (And.right (And.right (And.right (And.right (And.right (And.right (And.right (by assumption))))))))))))) | exact And.left (And.right (And.right (And.right (And.right (And.right (And.right (And.right (And.right (And.right (And.right (And.right (And.right (And.right (by assumption))))))))))))))))
  (k_with "k_ne" => ((refine neN ?_; (try dsimp only); first | assumption | exact fun kwe9 => absurd kwe9.symm (by assumption) | exact ne_up1 | exact up_ne1 | exact ne_up2 | exact up_ne2 | exact ne_up3 | exact up_ne3 | exact ne_up4 | exact up_ne4 | exact ne_up5 | exact up_ne5 | exact ne_up6 | exact up_ne6 | exact ne_up7 | exact up_ne7 | exact Nat.ne_of_gt (by k_extra "andf") | exact Nat.ne_of_lt (by k_extra "andf") | omega)))
  (k_with "ktr_rel" => (first | exact List.mem_cons_self | ktr_member | (refine List.mem_cons_of_mem _ ?_; ktr_rel) | (refine List.mem_append.mpr (Or.inl ?_); ktr_rel) | (refine List.mem_append.mpr (Or.inr ?_); ktr_rel)))
  (k_with "lcg_sub" => ((intro kwp kwhp; (try simp only [List.mem_append, List.mem_cons, kwhp, or_true, true_or]))))
  (k_with "call ref" => (((with_reducible show wpAny _ _ (call (Value.ref 258) _) _ _ _); k_dflt (refine lkind_spec (by k_asm) (by k_asm) (by k_asm) (by k_asm) (by k_asm) (by first | rfl | assumption) (by first | assumption | exact SetAt.mono (by assumption) (by lcg_sub)) (by assumption) (by ktr_room) (by ktr_units) ?_); intro kwt kwh kwtk kwF kwN; (try dsimp only); (try k_sweep))))
  (k_with "size_fits" => (((simp only [List.size_toArray, PySem.sizeLine_eq]); omega)))
  trivial
theorem lawkind_plain {x : Addr} {kd mdl : Str} {sd : Int}
  (B : Below A₀ base outer h₀) (F : Fr h₀ L s.heap m) (X : (hd.heap_1 w.params).In h₀) (N : News h₀ L s.heap news) (T : Top p loose mean mg mb h₀) (hk : cs.kind = .function)
  (hS : SetAt news x kd mdl sd) (hkd : kd = ("baseline" : Str) ∨ kd = ("extended" : Str) ∨ kd = ("progressive" : Str)) (hdp : dp + 6 < recursionLimit) (hun : un + 60 < cLine)
  (ret : ∀ t h' tk', Fr h₀ L h' m → News h₀ L h' news → Q (.str (lvKind kd) t) { s with heap := h', toks := tk' }) :
  wpAny (model PySem.Challenge.rw_ok0141_01.row.prog w) (ktrTop dp un gd cn cs L a ccd cl outer) (call (.ref 326) [.ref x]) Q E s := by
  have hfill : PySem.Challenge.rw_ok0141_01 = PySem.Challenge.rw_ok0141_01 ∧ hd.heap_1 = hd.heap_1 := by k_fill; exact ⟨rfl, rfl⟩
  clear hfill
  refine wpAny_call ?_
  k_dflt ktr_enter
  k_steps
  exact ret _ _ _ (by assumption) (by assumption)
end
end
end
section
theorem kwB5_1 : True := by
  w_top off
  k_with_none
  (k_with "andf" => (first | assumption | exact And.left (by assumption) | exact And.left (And.right (by assumption)) | exact And.left (And.right (And.right (by assumption))) | exact And.left (And.right (And.right (And.right (by assumption)))) | exact And.left (And.right (And.right (And.right (And.right (by assumption))))) | exact And.left (And.right (And.right (And.right (And.right (And.right (by assumption)))))) | exact And.left (And.right (And.right (And.right (And.right (And.right (And.right (by assumption))))))) | exact And.left (And.right (And.right (And.right (And.right (And.right (And.right (And.right (by assumption)))))))) | exact And.left (And.right (And.right (And.right (And.right (And.right (And.right (And.right (And.right (by assumption))))))))) | exact And.left (And.right (And.right (And.right (And.right (And.right (And.right (And.right (And.right (And.right (by assumption)))))))))) | exact And.left (And.right (And.right (And.right (And.right (And.right (And.right (And.right (And.right (And.right (And.right (by assumption))))))))))) | exact And.left (And.right (And.right (And.right (And.right (And.right (And.right (And.right (And.right (And.right (And.right (And.right (by assumption)))))))))))) | exact And.left (And.right (And.right (And.right (And.right (And.right (And.right (And.right (And.right (And.right (And.right (And.right (And.right (by assumption))))))))))))) | exact And.left (And.right (And.right (And.right (And.right (And.right (And.right (And.right (And.right (And.right (And.right (And.right (And.right (And.right (by assumption))))))))))))))))
  (k_with "k_ne" => ((refine neN ?_; (try dsimp only); first | assumption | exact fun kwe9 => absurd kwe9.symm (by assumption) | exact ne_up1 | exact up_ne1 | exact ne_up2 | exact up_ne2 | exact ne_up3 | exact up_ne3 | exact ne_up4 | exact up_ne4 | exact ne_up5 | exact up_ne5 | exact ne_up6 | exact up_ne6 | exact ne_up7 | exact up_ne7 | exact Nat.ne_of_gt (by k_extra "andf") | exact Nat.ne_of_lt (by k_extra "andf") | omega)))
  (k_with "ktr_rel" => (first | exact List.mem_cons_self | ktr_member | (refine List.mem_cons_of_mem _ ?_; ktr_rel) | (refine List.mem_append.mpr (Or.inl ?_); ktr_rel) | (refine List.mem_append.mpr (Or.inr ?_); ktr_rel)))
  trivial
/-- the law's own body and scope, out of the row -/
def lawFn : List Stmt × Scope := match PySem.Challenge.rw_ok0141_01.row.prog.main.body.getLast? with
  | some (.FunctionDef (body := b) (scope := s) ..) => (b, s)
  | _ => ([], default)
def lawAt (n : Nat) : Stmt := lawFn.1.getD n (.Pass ⟨0, 0, 0, 0⟩)
def forBody : Stmt → List Stmt
  | .For (body := b) .. => b
  | _ => []
abbrev lawEnv (L fA : Addr) (ccd : Value) : Env := envOfC ("law" : Str) lawFn.2 L fA ccd
abbrev lawA (L fA : Addr) (ccd : Value) : Around := callerA.deeper (lawEnv L fA ccd)
abbrev lawE (w : World) (L fA : Addr) (ccd : Value) (E₁ : Value → Shared → Prop) : Value → Shared → Prop := fun e s' => wpAny (model PySem.Challenge.rw_ok0141_01.row.prog w) (lawA L fA ccd) (leaving (lawEnv L fA ccd) e) (fun _ s'' => E₁ e s'') E₁ s'
theorem dats_at {α : Type} {f : α → Dat} {d : α} {Z : List (Addr × Obj)} {g : List α} {vs : List Value} (hl : vs.length = g.length) (h : ∀ (j : Nat) (v : Value), vs[j]? = some v → DatIn Z v (f (g.getD j d))) : DatAll Z vs (g.map f) := by
  have key : DatAll Z vs ((List.range g.length).map fun j => f (g.getD j d)) := dats_of_get hl h
  have e : ((List.range g.length).map fun j => f (g.getD j d)) = g.map f := by
    apply List.ext_getElem
    · simp
    · intro i h1 h2
      have hi : i < g.length := by simpa using h1
      simp [List.getD_eq_getElem?_getD, List.getElem?_eq_getElem hi]
  rwa [e] at key
theorem levels_gs {S : List (Bool × Bool)} {g : LV} : ∀ {k : Nat}, k ≤ S.length → ((levels S g).getD k (0, 0, [])).2.2.length = g.2.2.length := by
  induction S with
  | nil => intro k hk; obtain rfl : k = 0 := by simpa using hk
           rfl
  | cons s S ih =>
    intro k hk
    match k with
    | 0 =>
      have := ih (k := 0) (Nat.zero_le _)
      rw [top_at] at this
      simp only [levels, List.getD_cons_zero, stepL, List.length_map]
      exact this
    | k + 1 =>
      simp only [levels, List.getD_cons_succ]
      exact ih (by simpa using hk)
theorem ok_row {r : List Int} {n : Nat} : dOk (n + 1) (rowD r) = true := by
  unfold rowD
  simp only [dOk, List.all_map, List.all_eq_true]
  intro x _
  cases n <;> rfl
theorem ok_grid {g : List (List Int)} {n : Nat} : dOk (n + 2) (gD g) = true := by
  unfold gD
  simp only [dOk, List.all_map, List.all_eq_true]
  intro x _
  exact ok_row
theorem ok_grids {gs : List (List (List Int))} {n : Nat} : dOk (n + 3) (.list (gs.map gD)) = true := by
  simp only [dOk, List.all_map, List.all_eq_true]
  intro x _
  exact ok_grid
theorem levels_ok {S : List (Bool × Bool)} {g : LV} (ok : LvOk g) : ∀ {k : Nat}, k ≤ S.length → LvOk ((levels S g).getD k (0, 0, [])) := by
  induction S with
  | nil => intro k hk; obtain rfl : k = 0 := by simpa using hk
           exact ok
  | cons s S ih =>
    intro k hk
    match k with
    | 0 =>
      simp only [levels, List.getD_cons_zero]
      exact (LvOk.top (S := S) ok).step
    | k + 1 =>
      simp only [levels, List.getD_cons_succ]
      exact ih (by simpa using hk)
theorem levels_next {S : List (Bool × Bool)} {g : LV} : ∀ {k : Nat} {s : Bool × Bool}, S[k]? = some s → (levels S g).getD k (0, 0, []) = stepL s ((levels S g).getD (k + 1) (0, 0, [])) := by
  induction S with
  | nil => intro k s h; simp at h
  | cons s0 S ih =>
    intro k s h
    match k, h with
    | 0, h =>
      obtain rfl : s0 = s := by simpa using h
      simp only [levels, List.getD_cons_zero, List.getD_cons_succ, top_at]
    | k + 1, h =>
      simp only [levels, List.getD_cons_succ]
      exact ih (by simpa using h)
theorem grids0 {Z : List (Addr × Obj)} {vs : List Value} {gs : List (List (List Int))} (h : DatAll Z vs (gs.map gD)) (h0 : 0 < gs.length) : ∃ a us n, vs[Int.toNat 0]? = some (.ref a) ∧ (a, listOf us.toArray n) ∈ Z ∧ DatAll Z us ((gs.getD 0 []).map rowD) := by
  match gs, vs, h, h0 with
  | g :: gs, v :: vs, .cons hv _, _ =>
    obtain ⟨a, us, n, rfl, hm, hr⟩ := grid_open hv
    exact ⟨a, us, n, rfl, hm, hr⟩
theorem rows0 {Z : List (Addr × Obj)} {vs : List Value} {g : List (List Int)} (h : DatAll Z vs (g.map rowD)) (h0 : 0 < g.length) : ∃ (a : Addr) (us : List Value) (n : Nat), vs[Int.toNat 0]? = some (.ref a) ∧ (a, listOf us.toArray n) ∈ Z ∧ us.length = (g.getD 0 []).length := by
  match g, vs, h, h0 with
  | r :: g, v :: vs, .cons hv _, _ =>
    obtain ⟨a, us, n, rfl, hm, hr⟩ := row_open hv
    exact ⟨a, us, n, rfl, hm, hr.length⟩
theorem dats_rep {Z : List (Addr × Obj)} {d : Dat} : ∀ {n : Nat} {vs : List Value}, vs.length = n → (∀ (j : Nat) (v : Value), vs[j]? = some v → DatIn Z v d) → DatAll Z vs (List.replicate n d)
  | 0, [], _, _ => .nil
  | n + 1, v :: vs, hl, h => .cons (h 0 v rfl) (dats_rep (by simpa using hl) fun j w hw => h (j + 1) w (by simpa using hw))
theorem fold_rep {v : Value} (n : Nat) : ∀ (a : Array Value), List.foldl (fun x1 x2 => x1 ++ x2) a (List.replicate n #[v]) = (a.toList ++ List.replicate n v).toArray := by
  induction n with
  | zero => intro a; simp
  | succ n ih =>
    intro a
    rw [List.replicate_succ, List.foldl_cons, ih, List.replicate_succ]
    simp
theorem rep_obj {v : Value} {n : Nat} : ({ cls := .type "list", data := .seq (List.foldl (fun x1 x2 => x1 ++ x2) #[] (List.replicate (if (#[v] : Array Value).isEmpty = true then 0 else (n : Int).toNat) #[v])) } : Obj) = W.listOf (List.replicate n v).toArray 0 := by
  have e : (if (#[v] : Array Value).isEmpty = true then 0 else (n : Int).toNat) = n := by simp
  rw [e, fold_rep]
  simp
theorem ok_rep {n : Nat} {a b : Int} : dOk 9 (.list (List.replicate n (.tuple [.int a, .int b]))) = true := by
  simp only [dOk, List.all_eq_true]
  intro x hx
  rw [List.eq_of_mem_replicate hx]
  rfl
theorem hlf_eq (wd hg : Nat) (rows : List (List Int)) (ac dn : Bool) : hlfL wd hg rows ac dn = halvedG rows wd hg ac dn := by
  unfold hlfL halvedG
  congr 1
  funext y
  congr 1
  funext x
  exact mean_eq rows wd hg ac dn y x
end
section

section
variable {w : World} {p : Program} {loose : List Str} {mean : ExcName → Option Value} {mg mb : Str → Option Value} {h₀ : Heap} {L fA : Addr} {ccd : Value} {s : Shared} {E₁ : Value → Shared → Prop} {Post : Flow → Shared → Prop}
theorem kwC55_1 : True := by
  w_top off
  k_with_none
  (k_with "andf" => (first | assumption | exact And.left (by assumption) | exact And.left (And.right (by assumption)) | exact And.left (And.right (And.right (by assumption))) | exact And.left (And.right (And.right (And.right (by assumption)))) | exact And.left (And.right (And.right (And.right (And.right (by assumption))))) | exact And.left (And.right (And.right (And.right (And.right (And.right (by assumption)))))) | exact And.left (And.right (And.right (And.right (And.right (And.right (And.right (by assumption))))))) | exact And.left (And.right (And.right (And.right (And.right (And.right (And.right (And.right (by assumption)))))))) | exact And.left (And.right (And.right (And.right (And.right (And.right (And.right (And.right (And.right (by assumption))))))))) | exact And.left (And.right (And.right (And.right (And.right (And.right (And.right (And.right (And.right (And.right (by assumption)))))))))) | exact And.left (And.right (And.right (And.right (And.right (And.right (And.right (And.right (And.right (And.right (And.right (by assumption))))))))))) | exact And.left (And.right (And.right (And.right (And.right (And.right (And.right (And.right (And.right (And.right (And.right (And.right (by assumption)))))))))))) | exact And.left (And.right (And.right (And.right (And.right (And.right (And.right (And.right (And.right (And.right (And.right (And.right (And.right (by assumption))))))))))))) | exact And.left (And.right (And.right (And.right (And.right (And.right (And.right (And.right (And.right (And.right (And.right (And.right (And.right (And.right (by assumption))))))))))))))))
  (k_with "k_ne" => ((refine neN ?_; (try dsimp only); first | assumption | exact fun kwe9 => absurd kwe9.symm (by assumption) | exact ne_up1 | exact up_ne1 | exact ne_up2 | exact up_ne2 | exact ne_up3 | exact up_ne3 | exact ne_up4 | exact up_ne4 | exact ne_up5 | exact up_ne5 | exact ne_up6 | exact up_ne6 | exact ne_up7 | exact up_ne7 | exact Nat.ne_of_gt (by k_extra "andf") | exact Nat.ne_of_lt (by k_extra "andf") | omega)))
  (k_with "ktr_rel" => (first | exact List.mem_cons_self | ktr_member | (refine List.mem_cons_of_mem _ ?_; ktr_rel) | (refine List.mem_append.mpr (Or.inl ?_); ktr_rel) | (refine List.mem_append.mpr (Or.inr ?_); ktr_rel)))
  (k_with "lcg_sub" => ((intro kwp kwhp; (try simp only [List.mem_append, List.mem_cons, kwhp, or_true, true_or]))))
  (k_with "call ref" => (((with_reducible show wpAny _ _ (call (Value.ref 319) _) _ _ _); k_dflt (refine lhalved_spec (by k_asm) (by k_asm) (by k_asm) (by k_asm) (by k_asm) (by first | rfl | assumption) (by first | assumption | exact datIn_up (by assumption) (by lcg_sub)) (by assumption) (by k_mem) (by assumption) (by assumption) (by ktr_room) (by ktr_units) ?_); intro kwv kwtl kwh kwtk kwF kwN kwB kwD; (try dsimp only); (try k_sweep))))
  (k_with "size_fits" => (((simp only [List.size_toArray, PySem.sizeLine_eq]); omega)))
  (k_with "k_all" => (first | assumption | (refine List.forall_mem_append.mpr ⟨(by k_all), (by k_all)⟩) | (intro kwp9 kwhp9; have kwh9 := (by assumption : ∀ p ∈ _, @LT.lt Nat _ p.1 _) kwp9 kwhp9; refine neN ?_; (try dsimp only at kwh9 ⊢); omega)))
  (k_with "compareOp NotEq ref ref" => ((refine stop_in ?_)))
  (k_with "eval ListComp" => (((with_reducible show wpAny _ _ (eval (Expr.ListComp _ [⟨_, Expr.Attribute _ _ _, _, _⟩] _ _) _) _ _ _); k_dflt (refine LCg.ListComp_U (F₀ := by k_asm) (by with_unfolding_all rfl) (by decide) (by rfl) (by decide) (by rfl) (stopQ ?_)))))
  (k_with "subscriptTail" => (((with_reducible show wpAny _ _ (subscriptTail _ (Expr.Constant (Const.int 0) _ _) _ _) _ _ _); k_dflt (refine item_led (by k_asm) (by k_mem) (by decide) (by decide) (by assumption) ?_))))
  (k_with "call builtin:len" => (((with_reducible show wpAny _ _ (call (Value.builtin "len") [Value.ref _]) _ _ _); k_dflt (refine len_led (by k_asm) (by k_mem) (by assumption) (by omega) ?_; k_whole))))
  (k_with "subscriptTail Name BinOp ref int" => ((k_dflt (refine item_led (by k_asm) (by k_mem) (by omega) (by omega) (by assumption) ?_))))
  (k_with "subscriptTail Name Name ref int" => ((k_dflt (refine item_led (by k_asm) (by k_mem) (by omega) (by omega) (by assumption) ?_))))
  trivial
theorem turn1 {px : Pos} {I ka fa da : Addr} {oI oK oM oB oQ : Obj} {Y : List (Addr × Obj)} {mdl : Str} {bits : Int} {tm tb t tn : Tok} {vk : Option Value} {fv sv dv : List Value} {fe se de many kk : Nat} {S : List (Bool × Bool)} {g : LV} {u u₀ : Str → Option Value}
  (B : Below callerA h₀ [] h₀) (X : (hd.heap_1 w.params).In h₀) (T : Top p loose mean mg mb h₀)
  (F : Fr h₀ L s.heap (fun z => if z = ("due" : Str) then some (.ref da) else if (["level"] : List Str).contains z then u z else (fun z => if z = ("found" : Str) then some (.ref fa) else if z = ("many" : Str) then some (.int (many : Int) tn) else u₀ z) z))
  (N : News h₀ L s.heap ((I, oI) :: (L + 1 + 1 + 1 + 1 + 1 + 1, oK) :: Y)) (hIK : @Ne Nat I (L + 1 + 1 + 1 + 1 + 1 + 1)) (hI : ∀ p ∈ Y, @Ne Nat p.1 I) (hK : ∀ p ∈ Y, @Ne Nat p.1 (L + 1 + 1 + 1 + 1 + 1 + 1))
  (cM : (L + 1 + 1, oM) ∈ Y) (dM : oM.data = .cell (some (.str mdl tm))) (cB : (L + 1 + 1 + 1, oB) ∈ Y) (dB : oB.data = .cell (some (.int bits tb))) (cQ : (L + 1 + 1 + 1 + 1 + 1 + 1 + 1, oQ) ∈ Y) (dQ : oQ.data = .cell (some (.ref ka))) (dK : oK.data = .cell vk)
  (hfa : (fa, listOf fv.toArray fe) ∈ Y) (hL : LevelsAt Y fv mdl bits (levels S g)) (hka : (ka, listOf sv.toArray se) ∈ Y) (hS : StepsAt Y sv S) (hda : (da, listOf dv.toArray de) ∈ Y) (hD : DatAll Y dv (((levels S g).getD kk (0, 0, [])).2.2.map gD))
  (okg : LvOk g) (hgm : g.2.2.length = many) (hm4 : many ≤ 4) (hS9 : S.length < 4) (hkk : kk ≤ S.length) (hmd : PyData.strOk mdl = true)
  (ret : ∀ (m' : Str → Option Value) (da' : Addr) (dv' : List Value) (de' : Nat) (oK' : Obj) (vk' : Option Value) (Y' : List (Addr × Obj)) (h' : Heap) (tk' : Nat), Fr h₀ L h' m' → m' ("due" : Str) = some (.ref da') → (∀ z, z ≠ ("due" : Str) → z ≠ ("level" : Str) → m' z = (fun z => if z = ("found" : Str) then some (.ref fa) else if z = ("many" : Str) then some (.int (many : Int) tn) else u₀ z) z) →
    News h₀ L h' ((I, oI) :: (L + 1 + 1 + 1 + 1 + 1 + 1, oK') :: Y') → (∀ p ∈ Y, p ∈ Y') → (∀ p ∈ Y', @Ne Nat p.1 I) → (∀ p ∈ Y', @Ne Nat p.1 (L + 1 + 1 + 1 + 1 + 1 + 1)) → oK'.data = .cell vk' → (da', listOf dv'.toArray de') ∈ Y' → DatAll Y' dv' (((levels S g).getD (kk - 1) (0, 0, [])).2.2.map gD) → Post .next { s with heap := h', toks := tk' }) :
  wpAny (model PySem.Challenge.rw_ok0141_01.row.prog w) (lawA L fA ccd) (assign (.Name ("k" : Str) px) (lawEnv L fA ccd) (.int (kk : Int) t)) (fun _ s₃ => wpAny (model PySem.Challenge.rw_ok0141_01.row.prog w) (lawA L fA ccd) (execs (forBody (lawAt 10)) (lawEnv L fA ccd)) Post (lawE w L fA ccd E₁) s₃) (lawE w L fA ccd E₁) s := by
  have hfill : PySem.Challenge.rw_ok0141_01 = PySem.Challenge.rw_ok0141_01 ∧ hd.heap_1 = hd.heap_1 := by k_fill; exact ⟨rfl, rfl⟩
  clear hfill
  show wpAny _ (callerA.deeper (envOfC ("law" : Str) ⟨_, _, _, _, _⟩ L fA ccd)) (assign _ (envOfC ("law" : Str) ⟨_, _, _, _, _⟩ L fA ccd) _) (fun _ s₃ => wpAny _ (callerA.deeper (envOfC ("law" : Str) ⟨_, _, _, _, _⟩ L fA ccd)) (execs [_, _, _, _] (envOfC ("law" : Str) ⟨_, _, _, _, _⟩ L fA ccd)) _ _ s₃) _ _
  dsimp only
  have hll : fv.length = S.length + 1 := by rw [hL.len, levels_len]
  have hk9 : kk < fv.length := by omega
  have hfx := List.getElem?_eq_getElem hk9
  obtain ⟨x0, e0, hP0⟩ := hL.ok kk (fv[kk]'hk9) hfx
  rw [e0] at hfx
  have hx0 : fv[Int.toNat (kk : Int)]? = some (.ref x0) := hfx
  obtain ⟨q, hqq⟩ : ∃ q, q = (levels S g).getD kk (0, 0, []) := ⟨_, rfl⟩
  rw [← hqq] at hP0 hD
  have okq : LvOk q := hqq ▸ levels_ok okg hkk
  obtain ⟨okw, okh, okn, _, okr⟩ := okq
  obtain ⟨a0, us0, n00, hx1, hm1, hd1⟩ := grids0 hD okn
  have okr0 := okr _ (getD_mem (d := []) okn)
  obtain ⟨b0, ws0, n01, hx2, hm2, hw0⟩ := rows0 hd1 (by rw [okr0.len]; exact okr0.hpos)
  rw [okr0.row _ (getD_mem (d := []) (by rw [okr0.len]; exact okr0.hpos))] at hw0
  have hu0 : us0.length = q.2.1 := by rw [hd1.length, List.length_map, okr0.len]
  refine hP0.elim ?_
  clear hP0
  intro dx0 h1 t1 tm0 h2 t2 tb0 h3 t3 pl n0 vs0 ee m1 m2 m3 hPl
  k_steps
  refine stop_out ?_
  (rename News _ _ _ _ => N5)
  refine ne_same (d := .tuple [.str mdl, .int bits]) N5 (.tuple (by k_mem) (.cons (.str _ _) (.cons (.int _ _) .nil))) (.tuple (by k_mem) (.cons (.str _ _) (.cons (.int _ _) .nil))) (by simp [dOk, hmd]) (by ktr_units) ?_
  k_steps
  refine stop_out ?_
  (rename News _ _ _ _ => N6)
  have hvl : vs0.length = q.2.2.length := hPl.len
  have szq : vs0.toArray.size = q.2.2.length := by rw [List.size_toArray, hvl]
  have hqg : q.2.2.length ≤ 4 := by rw [hqq]; rw [levels_gs hkk]; omega
  refine LCg.CompSrc.ledger rfl (by assumption) N6 (by k_mem : (pl, W.listOf vs0.toArray ee) ∈ _) (by rw [szq, sizeLine_eq]; omega) ?_
  intro g1
  rw [szq]
  refine comp_go (n := q.2.2.length) [] [] (fun M => M = []) (fun j tl v => DatIn Y v (gD (q.2.2.getD j []))) (fun M h => by rw [h]; rfl) (by simp) (fun _ _ _ _ _ r => r) ?_ ?_ ?_ rfl
  · rintro M tl9 rfl
    exact .inr ⟨_, List.mem_append_right _ (List.mem_append_left _ (by k_mem : (pl, W.listOf vs0.toArray ee) ∈ _)), rfl, _, rfl⟩
  · rintro j v3 I3 oI3 C3 oC3 D3 ys m3' h6 tk6 E6 M Y6 hj hl3 hw3 rfl hYa hZY off hne3 hC3 hx3 F6 N7
    obtain ⟨pk, rfl, hpE⟩ := hPl.ok j v3 (by simpa using hw3)
    refine hpE.elim ?_
    clear hpE
    intro dx p1 w1 p2 w2 p3 w3 pn tw th vr q1 q2 q3 okr
    simp only [List.forall_mem_cons] at hZY
    refine ae5 hZY ?_
    clear hZY
    intro _ _ _ _ zt
    have z1 := zt _ q1
    have z2 := zt _ q2
    k_steps
    exact cend_nil [] (by assumption) (by assumption) rfl q3
  · rintro ys3 M3 tl3 hl3 rfl hbh3 _ hR3
    intro D3 h3 tk3 F3 N3 off3
    simp only [List.nil_append, List.cons_append] at N3 off3
    have hdd : DatIn Y (.ref da) (.list (q.2.2.map gD)) := .list hda hD
    k_steps
    refine stop_out ?_
    (rename News _ _ _ _ => N8)
    refine ne_same (d := .list (q.2.2.map gD)) N8 (.list (by k_mem) ((dats_at hl3 hR3).mono fun p hp => by simp [hp])) (hdd.mono fun p hp => by simp [hp]) ok_grids (by ktr_units) ?_
    k_steps
    refine stop_out ?_
    (rename News _ _ _ _ => N9)
    refine LCg.CompSrc.ledger rfl (by assumption) N9 (by k_mem : (pl, W.listOf vs0.toArray ee) ∈ _) (by rw [szq, sizeLine_eq]; omega) ?_
    intro g2
    rw [szq]
    refine comp_go (n := q.2.2.length) [] [] (fun M => M = []) (fun j tl v => DatIn tl v (.tuple [.int q.1, .int q.2.1])) (fun M h => by rw [h]; rfl) (by simp) (fun _ _ _ _ k r => r.mono k) ?_ ?_ ?_ rfl
    · rintro M tl9 rfl
      exact .inr ⟨_, List.mem_append_right _ (List.mem_append_left _ (by k_mem : (pl, W.listOf vs0.toArray ee) ∈ _)), rfl, _, rfl⟩
    · rintro j v3 I3 oI3 C3 oC3 D4 ys m3' h6 tk6 E6 M Y6 hj hl4 hw3 rfl hYa hZY off hne3 hC3 hx3 F6 N7
      obtain ⟨pk, rfl, hpE⟩ := hPl.ok j v3 (by simpa using hw3)
      refine hpE.elim ?_
      clear hpE
      intro dx p1 w1 p2 w2 p3 w3 pn tw th vr q1 q2 q3 okr
      have z1 := hZY _ (by k_mem : (pk, instObj 94 dx) ∈ _)
      have z2 := hZY _ (by k_mem : (dx, dictOf [ent p1 "width" w1 (.int (q.1 : Int) tw), ent p2 "height" w2 (.int (q.2.1 : Int) th), ent p3 "rows" w3 vr] pn) ∈ _)
      k_steps
      rename_i lz
      exact cend_one (by assumption) (by assumption) (fun q hq => ktn_ltOf (l := (I3, oI3) :: (C3, oC3) :: (D4, LCg.lst ys) :: ([] ++ Y6)) lz q hq) (.tuple List.mem_cons_self (.cons (.int _ _) (.cons (.int _ _) .nil)))
    · rintro ys4 M4 tl4 hl4 rfl hbh4 _ hR4
      intro D4 h4 tk4 F4 N4 off4
      simp only [List.nil_append, List.cons_append] at N4 off4
      k_steps
      refine stop_out ?_
      (rename News _ _ _ _ => N10)
      have hqm : q.2.2.length = many := by rw [hqq, levels_gs hkk, hgm]
      rw [hqm] at hl4
      rw [rep_obj] at N10
      refine ne_same (d := .list (List.replicate many (.tuple [.int q.1, .int q.2.1]))) N10 (.list (by k_mem) ((dats_rep hl4 hR4).mono fun p hp => by simp [hp])) (.list (vs := List.replicate many (.ref _)) (n := 0) List.mem_cons_self (dats_rep (by simp) fun j v hv => ?_)) ?_ (by ktr_units) ?_
      · obtain rfl : _ = v := (List.eq_of_mem_replicate (List.mem_of_getElem? hv)).symm
        exact .tuple (by k_mem) (.cons (.int _ _) (.cons (.int _ _) .nil))
      · exact ok_rep
      · k_steps
        · (rename News _ _ _ _ => N12)
          obtain ⟨k', rfl⟩ : ∃ k', kk = k' + 1 := ⟨kk - 1, by omega⟩
          have hk' : k' < S.length := by omega
          have hsk := List.getElem?_eq_getElem hk'
          have hsl : k' < sv.length := by rw [hS.len]; exact hk'
          obtain ⟨tq, nq, ⟨ac, dn⟩, hsq, hvq, hmq⟩ := hS.ok k' _ (List.getElem?_eq_getElem hsl)
          dsimp only at hmq
          have hxq : sv[Int.toNat (((k' + 1 : Nat) : Int) - 1)]? = some (.ref tq) := by
            rw [show Int.toNat (((k' + 1 : Nat) : Int) - 1) = k' by omega, List.getElem?_eq_getElem hsl, hvq]
          have hdl : dv.length = q.2.2.length := by rw [hD.length, List.length_map]
          have szd : dv.toArray.size = q.2.2.length := by rw [List.size_toArray, hdl]
          refine LCg.CompSrc.ledger rfl (by assumption) N12 (by k_mem : (da, W.listOf dv.toArray de) ∈ _) (by rw [szd, sizeLine_eq]; omega) ?_
          intro g3
          rw [szd]
          refine comp_go (n := q.2.2.length) [] [] (fun M => M = []) (fun j tl v => DatIn tl v (gD (hlfL q.1 q.2.1 (q.2.2.getD j []) ac dn))) (fun M h => by rw [h]; rfl) (by simp) (fun _ _ _ _ k r => r.mono k) ?_ ?_ ?_ rfl
          · rintro M tl9 rfl
            exact .inr ⟨_, List.mem_append_right _ (List.mem_append_left _ (by k_mem : (da, W.listOf dv.toArray de) ∈ _)), rfl, _, rfl⟩
          · rintro j v3 I3 oI3 C3 oC3 D6 ys m3' h6 tk6 E6 M Y6 hj hl6 hw3 rfl hYa hZY off hne3 hC3 hx3 F6 N7
            have hgj := okr _ (getD_mem (d := []) hj)
            have hdj : DatIn Y v3 (gD (q.2.2.getD j [])) := by
              obtain ⟨v9, e9, d9⟩ := hD.get (k := j) (by simpa using hj)
              obtain rfl : v9 = v3 := by
                have : dv[j]? = some v3 := by simpa using hw3
                rw [e9] at this
                exact Option.some.inj this
              have e10 : (q.2.2.map gD)[j]'(by simpa using hj) = gD (q.2.2.getD j []) := by simp [List.getD_eq_getElem?_getD, List.getElem?_eq_getElem hj]
              rw [← e10]; exact d9
            simp only [List.forall_mem_cons] at hZY
            refine ae10 hZY ?_
            clear hZY
            intro _ _ _ _ _ _ _ _ zK zY
            have zt : ∀ p ∈ Y, p ∈ Y6 := fun p hp => zY p (by simp [hp])
            have y1 := zt _ cQ
            have y2 := zt _ hka
            have y3 := zt _ hmq
            have hdj6 := hdj.mono zt
            k_steps
            exact cend_app [] (by assumption) (by assumption) (by assumption) rfl (by assumption)
          · rintro ys6 M6 tl6 hl6 rfl hbh6 _ hR6
            intro D6 h6 tk6 F6 N6 off6
            simp only [List.nil_append, List.cons_append] at N6 off6
            k_steps
            (rename News _ _ _ _ => N13)
            have offm := off1_all off6
            refine ret _ D6 ys6 ys6.length _ _ ((D6, LCg.lst ys6) :: (Y ++ tl6)) _ _ (by assumption) ?_ ?_ (fun p hp => N13 p ?_) (fun p hp => by simp [hp]) (fun p hp => ?_) (fun p hp => ?_) (by assumption) List.mem_cons_self ?_
            · rfl
            · intro z n1 n2
              simp [n1, n2]
            · simp only [List.mem_cons, List.mem_append] at hp ⊢
              rcases hp with h | h | h | h | h <;> simp [h]
            · simp only [List.mem_cons, List.mem_append] at hp
              rcases hp with rfl | h | h
              · exact fun e => offm (I, oI) (by simp) e.symm
              · exact hI p h
              · exact hbh6 (I, oI) (by simp) p h
            · simp only [List.mem_cons, List.mem_append] at hp
              rcases hp with rfl | h | h
              · exact fun e => offm (L + 1 + 1 + 1 + 1 + 1 + 1, _) (by repeat (first | exact List.mem_cons_self | refine List.mem_cons_of_mem _ ?_)) e.symm
              · exact hK p h
              · exact hbh6 (L + 1 + 1 + 1 + 1 + 1 + 1, _) (by repeat (first | exact List.mem_cons_self | refine List.mem_cons_of_mem _ ?_)) p h
            · rw [Nat.add_sub_cancel, levels_next hsq, ← hqq]
              refine dats_at (d := []) (by simp [stepL, hl6]) fun j v hv => ?_
              have hj : j < q.2.2.length := by rw [← hl6]; exact (List.getElem?_eq_some_iff.mp hv).1
              have e9 : (stepL (ac, dn) q).2.2.getD j [] = hlfL q.1 q.2.1 (q.2.2.getD j []) ac dn := by
                rw [hlf_eq]
                simp [stepL, List.getD_eq_getElem?_getD, List.getElem?_eq_getElem hj]
              rw [e9]
              exact (hR6 j v hv).mono fun p hp => by simp [hp]
        · (rename News _ _ _ _ => N13)
          obtain rfl : kk = 0 := by omega
          refine ret _ da dv de _ _ Y _ _ (by assumption) ?_ ?_ (fun p hp => N13 p ?_) (fun p hp => hp) hI hK (by assumption) hda ?_
          · rfl
          · intro z n1 n2
            simp [n1, n2]
          · simp only [List.mem_cons, List.mem_append] at hp ⊢
            rcases hp with h | h | h <;> simp [h]
          · rw [← hqq]
            exact hD
end
end
section
theorem kwB6_1 : True := by
  w_top off
  k_with_none
  (k_with "andf" => (first | assumption | exact And.left (by assumption) | exact And.left (And.right (by assumption)) | exact And.left (And.right (And.right (by assumption))) | exact And.left (And.right (And.right (And.right (by assumption)))) | exact And.left (And.right (And.right (And.right (And.right (by assumption))))) | exact And.left (And.right (And.right (And.right (And.right (And.right (by assumption)))))) | exact And.left (And.right (And.right (And.right (And.right (And.right (And.right (by assumption))))))) | exact And.left (And.right (And.right (And.right (And.right (And.right (And.right (And.right (by assumption)))))))) | exact And.left (And.right (And.right (And.right (And.right (And.right (And.right (And.right (And.right (by assumption))))))))) | exact And.left (And.right (And.right (And.right (And.right (And.right (And.right (And.right (And.right (And.right (by assumption)))))))))) | exact And.left (And.right (And.right (And.right (And.right (And.right (And.right (And.right (And.right (And.right (And.right (by assumption))))))))))) | exact And.left (And.right (And.right (And.right (And.right (And.right (And.right (And.right (And.right (And.right (And.right (And.right (by assumption)))))))))))) | exact And.left (And.right (And.right (And.right (And.right (And.right (And.right (And.right (And.right (And.right (And.right (And.right (And.right (by assumption))))))))))))) | exact And.left (And.right (And.right (And.right (And.right (And.right (And.right (And.right (And.right (And.right (And.right (And.right (And.right (And.right (by assumption))))))))))))))))
  (k_with "k_ne" => ((refine neN ?_; (try dsimp only); first | assumption | exact fun kwe9 => absurd kwe9.symm (by assumption) | exact ne_up1 | exact up_ne1 | exact ne_up2 | exact up_ne2 | exact ne_up3 | exact up_ne3 | exact ne_up4 | exact up_ne4 | exact ne_up5 | exact up_ne5 | exact ne_up6 | exact up_ne6 | exact ne_up7 | exact up_ne7 | exact Nat.ne_of_gt (by k_extra "andf") | exact Nat.ne_of_lt (by k_extra "andf") | omega)))
  (k_with "ktr_rel" => (first | exact List.mem_cons_self | ktr_member | (refine List.mem_cons_of_mem _ ?_; ktr_rel) | (refine List.mem_append.mpr (Or.inl ?_); ktr_rel) | (refine List.mem_append.mpr (Or.inr ?_); ktr_rel)))
  trivial
def Kind3 (k : Str) : Prop := k = ("baseline" : Str) ∨ k = ("extended" : Str) ∨ k = ("progressive" : Str)
def Kind2 (k : Str) : Prop := k = ("arith" : Str) ∨ k = ("arith progressive" : Str)
theorem Kind3.all {k : Str} (h : Kind3 k) : Kinds k := by rcases h with rfl | rfl | rfl <;> simp [Kinds]
theorem Kind2.all {k : Str} (h : Kind2 k) : Kinds k := by rcases h with rfl | rfl <;> simp [Kinds]
theorem Kind3.ok {k : Str} (h : Kind3 k) : PyData.strOk k = true ∧ PyData.strOk (lvKind k) = true := by rcases h with rfl | rfl | rfl <;> decide +kernel
def KD : List (PyData × PyData) := [(.str ("baseline" : Str), .str ("extended" : Str)), (.str ("extended" : Str), .str ("extended" : Str)), (.str ("progressive" : Str), .str ("progressive" : Str))]
/-- the law's table of kinds on the ledger -/
def KindsAt (w : World) (a : Addr) (o : Obj) : Prop := (a == sysModules) = false ∧ ∃ kvs, o.IsDictOf (PySem.strKind PySem.Challenge.rw_ok0141_01.row.prog w) kvs ∧ PyProof.V.FlatPairs PyData.str kvs KD
section
open PyProof.Rows PyProof.V
variable {w : World} {A : Around} {E : Value → Shared → Prop} {s : Shared} {h₀ : Heap} {L a : Addr} {news : List (Addr × Obj)} {Q : Value → Shared → Prop} {o : Obj} {kd : Str} {t t' : Tok}
theorem kinds_tab (K : KindsAt w a o) (N : News h₀ L s.heap news) (hm : (a, o) ∈ news) : StrTab PySem.Challenge.rw_ok0141_01.row.prog w s.heap a KD := by
  obtain ⟨lo, kvs, hd, hf⟩ := K
  exact TabAt.ofNews N hm lo hd hf
theorem flat_str {v : Value} {x : Str} (h : Flat v (.str x)) : ∃ t, v = .str x t := Flat.str_inv h
theorem kd_look (h : Kind3 kd) : lookup (.str kd) KD = some (.str (lvKind kd)) := by rcases h with rfl | rfl | rfl <;> kernel_rfl
theorem kd_none (h : Kind2 kd) : lookup (.str kd) KD = none := by rcases h with rfl | rfl <;> kernel_rfl
theorem kinds_get3 (h : Kind3 kd) (K : KindsAt w a o) (N : News h₀ L s.heap news) (hm : (a, o) ∈ news) (ret : ∀ t9 tk', Q (.str (lvKind kd) t9) { s with toks := tk' }) : wpAny (model PySem.Challenge.rw_ok0141_01.row.prog w) A (call (.builtin "dict.get") [.ref a, .str kd t, .str ("none" : Str) t']) Q E s := by
  refine call_get2_strTab (kinds_tab K N hm) (Flat.str _ _) fun v hv => ?_
  rw [kd_look h] at hv
  obtain ⟨t9, rfl⟩ := flat_str hv
  exact ret _ _
theorem kinds_get2 (h : Kind2 kd) (K : KindsAt w a o) (N : News h₀ L s.heap news) (hm : (a, o) ∈ news) (ret : ∀ t9 tk', Q (.str ("none" : Str) t9) { s with toks := tk' }) : wpAny (model PySem.Challenge.rw_ok0141_01.row.prog w) A (call (.builtin "dict.get") [.ref a, .str kd t, .str ("none" : Str) t']) Q E s := by
  refine call_get2_strTab (kinds_tab K N hm) (Flat.str _ _) fun v hv => ?_
  rw [kd_none h] at hv
  obtain ⟨t9, rfl⟩ := flat_str hv
  exact ret _ _
theorem kinds_in3 (h : Kind3 kd) (K : KindsAt w a o) (N : News h₀ L s.heap news) (hm : (a, o) ∈ news) (ret : ∀ tk', Q (.bool true) { s with toks := tk' }) : wpAny (model PySem.Challenge.rw_ok0141_01.row.prog w) A (compareOp .In (.str kd t) (.ref a)) Q E s := by
  refine in_strTab (kinds_tab K N hm) ?_
  rw [kd_look h]
  exact ret _
theorem kinds_in2 (h : Kind2 kd) (K : KindsAt w a o) (N : News h₀ L s.heap news) (hm : (a, o) ∈ news) (ret : ∀ tk', Q (.bool false) { s with toks := tk' }) : wpAny (model PySem.Challenge.rw_ok0141_01.row.prog w) A (compareOp .In (.str kd t) (.ref a)) Q E s := by
  refine in_strTab (kinds_tab K N hm) ?_
  rw [kd_none h]
  exact ret _
theorem kinds_item (h : Kind3 kd) (K : KindsAt w a o) (N : News h₀ L s.heap news) (hm : (a, o) ∈ news) {x : Str} {px : Pos} {slice : PySem.Expr} (ret : ∀ t9 tk', Q (.str (lvKind kd) t9) { s with toks := tk' })
    (hs : subscripted slice false (.ref a) (.str kd t) = operate [.ref a, .str kd t] (getItem (.ref a) (.str kd t)) := by with_unfolding_all rfl) : wpAny (model PySem.Challenge.rw_ok0141_01.row.prog w) A (subscriptTail (.Name x px) slice (.ref a) (.str kd t)) Q E s := by
  refine item_strTab (kinds_tab K N hm) (kd_look h) (fun v hv => ?_) hs
  obtain ⟨t9, rfl⟩ := flat_str hv
  exact ret _ _
end
section
open PyProof.Rows
variable {prog : Program} {w : World} {A : Around} {E : Value → Shared → Prop} {s : Shared} {h₀ : Heap} {L : Addr} {news Z : List (Addr × Obj)} {Q : Value → Shared → Prop}
theorem pick_level {value slice : PySem.Expr} {l : Addr} {fv : List Value} {n : Nat} {k : Int} {u : Tok} {mdl : Str} {bits : Int} {ls : List LV}
    (N : News h₀ L s.heap news) (hm : (l, W.listOf fv.toArray n) ∈ news) (hL : LevelsAt Z fv mdl bits ls) (h0 : 0 ≤ k) (hk : k < (fv.length : Int)) (hb : fv.length < 100)
    (h : ∀ x j, j < ls.length → PicAt Z x mdl bits (ls.getD j (0, 0, [])) → Q (.ref x) s)
    (hs : subscripted slice false (.ref l) (.int k u) = operate [.ref l, .int k u] (getItem (.ref l) (.int k u)) := by with_unfolding_all rfl) :
    wpAny (model prog w) A (subscriptTail value slice (.ref l) (.int k u)) Q E s := by
  have hk' : k.toNat < fv.length := by omega
  obtain ⟨x, e, hP⟩ := hL.ok _ _ (List.getElem?_eq_getElem hk')
  exact item_led N hm h0 (by omega) (by rw [List.getElem?_eq_getElem hk', e]) (h x _ (by rw [← hL.len]; exact hk') hP) hs
end
theorem any_yc (mdl : Str) : (([("ycc" : Str), ("ycck" : Str)] : List Str).any (· == mdl)) = decide (mdl = ("ycc" : Str) ∨ mdl = ("ycck" : Str)) := by
  simp only [List.any_cons, List.any_nil, Bool.or_false]
  by_cases h1 : mdl = ("ycc" : Str)
  · subst h1; simp
  · by_cases h2 : mdl = ("ycck" : Str)
    · subst h2; simp
    · simp only [h1, h2, or_self, decide_false, Bool.or_eq_false_iff, beq_eq_false_iff_ne]
      exact ⟨fun e => h1 e.symm, fun e => h2 e.symm⟩
theorem any_12 (j : Nat) : (([1, 2] : List Int).any (· == (j : Int))) = decide (j = 1 ∨ j = 2) := by
  simp only [List.any_cons, List.any_nil, Bool.or_false]
  by_cases h1 : j = 1
  · subst h1; rfl
  · by_cases h2 : j = 2
    · subst h2; rfl
    · simp only [h1, h2, or_self, decide_false, Bool.or_eq_false_iff, beq_eq_false_iff_ne]
      omega
theorem ok_comps {n : Nat} {mdl : Str} : dOk 9 (.list ((List.range n).map fun (j : Nat) => Dat.tuple [.int ((j : Int) + 1), .int 1, .int 1, .int (slotOf mdl j)])) = true := by
  simp only [dOk, List.all_map, List.all_eq_true]
  intro x _
  rfl
theorem news_sub3 {h₀ h : Heap} {L : Addr} {a b c : Addr × Obj} {Y Z : List (Addr × Obj)} (hY : ∀ p ∈ Y, p ∈ Z) (N : News h₀ L h (a :: b :: c :: Z)) : News h₀ L h (a :: b :: c :: Y) := fun p hp => N p (by
  simp only [List.mem_cons] at hp ⊢
  rcases hp with h | h | h | h
  · exact .inl h
  · exact .inr (.inl h)
  · exact .inr (.inr (.inl h))
  · exact .inr (.inr (.inr (hY p h))))
section
open PyProof.Rows
variable {prog : Program} {w : World} {A : Around} {E : Value → Shared → Prop} {s : Shared} {h₀ : Heap} {L : Addr} {news : List (Addr × Obj)} {Q : Value → Shared → Prop}
/-- the last item of a list of the ledger -/
theorem item_last {value slice : PySem.Expr} {l : Addr} {vs : List Value} {n k : Nat} {u : Tok} {v : Value}
    (N : News h₀ L s.heap news) (hm : (l, W.listOf vs.toArray n) ∈ news) (hl : vs.length = k + 1) (hx : vs[k]? = some v) (h : Q v s)
    (hs : subscripted slice false (.ref l) (.int (-1) u) = operate [.ref l, .int (-1) u] (getItem (.ref l) (.int (-1) u)) := by with_unfolding_all rfl) :
    wpAny (model prog w) A (subscriptTail value slice (.ref l) (.int (-1) u)) Q E s := by
  have hL : s.heap.IsList l vs.toArray := ⟨_, N.get hm, rfl, n, rfl⟩
  refine tail_any hL.typeIs slot_list_getitem.lookup (wpAny_getItem_list_neg hL (by decide) (by rw [List.size_toArray]; omega) (by decide) ?_ h) hs
  rw [List.size_toArray, show ((-1 : Int) + (vs.length : Int)).toNat = k by omega]
  simpa using hx
end
end
section




section
variable {w : World} {p : Program} {loose : List Str} {mean : ExcName → Option Value} {mg mb : Str → Option Value} {h₀ : Heap} {L fA : Addr} {ccd : Value} {s : Shared} {E₁ : Value → Shared → Prop} {Post : Flow → Shared → Prop}
theorem kwC56_1 : True := by
  w_top off
  k_with_none
  (k_with "andf" => (first | assumption | exact And.left (by assumption) | exact And.left (And.right (by assumption)) | exact And.left (And.right (And.right (by assumption))) | exact And.left (And.right (And.right (And.right (by assumption)))) | exact And.left (And.right (And.right (And.right (And.right (by assumption))))) | exact And.left (And.right (And.right (And.right (And.right (And.right (by assumption)))))) | exact And.left (And.right (And.right (And.right (And.right (And.right (And.right (by assumption))))))) | exact And.left (And.right (And.right (And.right (And.right (And.right (And.right (And.right (by assumption)))))))) | exact And.left (And.right (And.right (And.right (And.right (And.right (And.right (And.right (And.right (by assumption))))))))) | exact And.left (And.right (And.right (And.right (And.right (And.right (And.right (And.right (And.right (And.right (by assumption)))))))))) | exact And.left (And.right (And.right (And.right (And.right (And.right (And.right (And.right (And.right (And.right (And.right (by assumption))))))))))) | exact And.left (And.right (And.right (And.right (And.right (And.right (And.right (And.right (And.right (And.right (And.right (And.right (by assumption)))))))))))) | exact And.left (And.right (And.right (And.right (And.right (And.right (And.right (And.right (And.right (And.right (And.right (And.right (And.right (by assumption))))))))))))) | exact And.left (And.right (And.right (And.right (And.right (And.right (And.right (And.right (And.right (And.right (And.right (And.right (And.right (And.right (by assumption))))))))))))))))
  (k_with "k_ne" => ((refine neN ?_; (try dsimp only); first | assumption | exact fun kwe9 => absurd kwe9.symm (by assumption) | exact ne_up1 | exact up_ne1 | exact ne_up2 | exact up_ne2 | exact ne_up3 | exact up_ne3 | exact ne_up4 | exact up_ne4 | exact ne_up5 | exact up_ne5 | exact ne_up6 | exact up_ne6 | exact ne_up7 | exact up_ne7 | exact Nat.ne_of_gt (by k_extra "andf") | exact Nat.ne_of_lt (by k_extra "andf") | omega)))
  (k_with "ktr_rel" => (first | exact List.mem_cons_self | ktr_member | (refine List.mem_cons_of_mem _ ?_; ktr_rel) | (refine List.mem_append.mpr (Or.inl ?_); ktr_rel) | (refine List.mem_append.mpr (Or.inr ?_); ktr_rel)))
  (k_with "call ref" => (((with_reducible show wpAny _ _ (call (Value.ref 307) _) _ _ _); k_dflt (refine lot3_spec (by k_asm) (by k_asm) (by k_asm) (by k_asm) (by k_asm) (by first | rfl | assumption) (by k_updF) (by assumption) (by assumption) (by assumption) (by first | decide | omega) (by first | decide | omega) (by ktr_room) (by ktr_units) ?_); intro kwd9 kwt9 kwx9 kwy9 kws9 kwu9 kwn9 kwh kwtk kwhd9 kwhe9 kwhx9 kwhy9 kwhz9 kwF kwN; (try dsimp only at kwN); (try dsimp only); (try k_sweep))))
  (k_with "call ref" => (((with_reducible show wpAny _ _ (call (Value.ref 289) _) _ _ _); refine stop_in ?_)))
  (k_with "call ref" => (((with_reducible show wpAny _ _ (call (Value.ref 326) _) _ _ _); refine stop_in ?_)))
  (k_with "call ref" => (((with_reducible show wpAny _ _ (call (Value.ref 265) _) _ _ _); refine stop_in ?_)))
  (k_with "size_fits" => (((simp only [List.size_toArray, PySem.sizeLine_eq]); omega)))
  (k_with "k_all" => (first | assumption | (refine List.forall_mem_append.mpr ⟨(by k_all), (by k_all)⟩) | (intro kwp9 kwhp9; have kwh9 := (by assumption : ∀ p ∈ _, @LT.lt Nat _ p.1 _) kwp9 kwhp9; refine neN ?_; (try dsimp only at kwh9 ⊢); omega)))
  (k_with "compareOp NotEq ref ref" => ((refine stop_in ?_)))
  (k_with "compareOp NotEq str str" => ((refine stop_in ?_)))
  (k_with "compareOp In str ref" => ((refine stop_in ?_)))
  (k_with "compareOp In int ref" => ((refine stop_in ?_)))
  (k_with "exec Assign cons ListComp" => (((with_reducible show wpAny _ _ (exec (Stmt.Assign [Expr.Name ("rows" : Str) _] _ _) _) _ _ _); refine stop_in ?_)))
  (k_with "subscriptTail Name Name ref int" => ((k_dflt (refine item_led (by k_asm) (by k_mem) (by omega) (by omega) (by assumption) ?_))))
  (k_with "getMethod ref" => ((refine stop_in ?_)))
  (k_with "call builtin:dict.get" => ((refine stop_in ?_)))
  (k_with "eval ListComp" => (((with_reducible show wpAny _ _ (eval (Expr.ListComp _ [⟨_, _, _, _⟩] _ _) _) _ _ _); k_dflt (refine LCg.ListComp_U (F₀ := by k_asm) (by with_unfolding_all rfl) (by decide) (by rfl) (by decide) (by rfl) (stopQ ?_)))))
  (k_with "subscriptTail" => (((with_reducible show wpAny _ _ (subscriptTail (Expr.List _ _) _ _ _) _ _ _); refine stop_in ?_)))
  (k_with "subscriptTail Name Call ref int" => ((refine stop_in ?_)))
  (k_with "subscriptTail Name Name ref str" => ((refine stop_in ?_)))
  (k_with "subscriptTail" => (((with_reducible show wpAny _ _ (subscriptTail _ (Expr.Constant (Const.int 0) _ _) _ _) _ _ _); k_dflt (refine item_led (by k_asm) (by k_mem) (by decide) (by decide) (by assumption) ?_))))
  (k_with "call builtin:len" => (((with_reducible show wpAny _ _ (call (Value.builtin "len") [Value.ref _]) _ _ _); k_dflt (refine len_led (by k_asm) (by k_mem) (by assumption) (by omega) ?_; k_whole))))
  trivial
theorem turn2a {px : Pos} {I u fa kdA : Addr} {oI oS oU oM oB oD : Obj} {Y : List (Addr × Obj)} {mdl kd : Str} {bits x0 x1 : Int} {tm tb t tn t0 t1 : Tok} {vk : Option Value} {fv : List Value} {fe many nn : Nat} {S : List (Bool × Bool)} {g : LV} {uu u₀ : Str → Option Value}
  (B : Below callerA h₀ [] h₀) (X : (hd.heap_1 w.params).In h₀) (T : Top p loose mean mg mb h₀)
  (F : Fr h₀ L s.heap (fun z => if (["kind", "side", "settings", "level", "frame", "told", "rows"] : List Str).contains z then uu z else (fun z => if z = ("found" : Str) then some (.ref fa) else if z = ("many" : Str) then some (.int (many : Int) tn) else if z = ("kinds" : Str) then some (.ref kdA) else u₀ z) z))
  (N : News h₀ L s.heap ((I, oI) :: (u, urnO x0 x1 t0 t1 nn) :: (L + 1 + 1 + 1 + 1 + 1 + 1 + 1 + 1, oS) :: Y)) (hb : UrnB x0 x1) (n1 : @Ne Nat I u) (n2 : @Ne Nat I (L + 1 + 1 + 1 + 1 + 1 + 1 + 1 + 1)) (n3 : @Ne Nat u (L + 1 + 1 + 1 + 1 + 1 + 1 + 1 + 1)) (hI : ∀ p ∈ Y, @Ne Nat p.1 I) (hU : ∀ p ∈ Y, @Ne Nat p.1 u) (hC : ∀ p ∈ Y, @Ne Nat p.1 (L + 1 + 1 + 1 + 1 + 1 + 1 + 1 + 1))
  (cU : (L + 1, oU) ∈ Y) (dU : oU.data = .cell (some (.ref u))) (cM : (L + 1 + 1, oM) ∈ Y) (dM : oM.data = .cell (some (.str mdl tm))) (cB : (L + 1 + 1 + 1, oB) ∈ Y) (dB : oB.data = .cell (some (.int bits tb))) (dS : oS.data = .cell vk)
  (hkd : Kind3 kd) (hKD : KindsAt w kdA oD) (hkA : (kdA, oD) ∈ Y)
  (hfa : (fa, listOf fv.toArray fe) ∈ Y) (hL : LevelsAt Y fv mdl bits (levels S g)) (okg : LvOk g) (hgm : g.2.2.length = many) (hm0 : 1 ≤ many) (hm4 : many ≤ 4) (hS9 : S.length < 4) (hmd : PyData.strOk mdl = true)
  (ret : ∀ (m' : Str → Option Value) (x0' x1' : Int) (t0' t1' : Tok) (nn' : Nat) (oS' : Obj) (vk' : Option Value) (h' : Heap) (tk' : Nat), Fr h₀ L h' m' → (∀ z, (["kind", "side", "settings", "level", "frame", "told", "rows"] : List Str).contains z = false → m' z = (fun z => if z = ("found" : Str) then some (.ref fa) else if z = ("many" : Str) then some (.int (many : Int) tn) else if z = ("kinds" : Str) then some (.ref kdA) else u₀ z) z) →
    News h₀ L h' ((I, oI) :: (u, urnO x0' x1' t0' t1' nn') :: (L + 1 + 1 + 1 + 1 + 1 + 1 + 1 + 1, oS') :: Y) → UrnB x0' x1' → oS'.data = .cell vk' → Post .next { s with heap := h', toks := tk' }) :
  wpAny (model PySem.Challenge.rw_ok0141_01.row.prog w) (lawA L fA ccd) (assign (.Name ("kind" : Str) px) (lawEnv L fA ccd) (.str kd t)) (fun _ s₃ => wpAny (model PySem.Challenge.rw_ok0141_01.row.prog w) (lawA L fA ccd) (execs (forBody (lawAt 12)) (lawEnv L fA ccd)) Post (lawE w L fA ccd E₁) s₃) (lawE w L fA ccd E₁) s := by
  have hfill : PySem.Challenge.rw_ok0141_01 = PySem.Challenge.rw_ok0141_01 ∧ hd.heap_1 = hd.heap_1 := by k_fill; exact ⟨rfl, rfl⟩
  clear hfill
  show wpAny _ (callerA.deeper (envOfC ("law" : Str) ⟨_, _, _, _, _⟩ L fA ccd)) (assign _ (envOfC ("law" : Str) ⟨_, _, _, _, _⟩ L fA ccd) _) (fun _ s₃ => wpAny _ (callerA.deeper (envOfC ("law" : Str) ⟨_, _, _, _, _⟩ L fA ccd)) (execs [_, _, _, _] (envOfC ("law" : Str) ⟨_, _, _, _, _⟩ L fA ccd)) _ _ s₃) _ _
  dsimp only
  have hll : fv.length = S.length + 1 := by rw [hL.len, levels_len]
  have hka := hkd.all
  have b0 := hb.1
  have b1 := hb.2.1
  have b2 := hb.2.2
  k_steps
  refine stop_out ?_
  (rename News _ _ _ _ => N8)
  refine pick_int (vs := [_, _, _, _]) (P := fun _ => True) N8 List.mem_cons_self ?_ ?_ (by simp) ?_ ?_
  · assumption
  · show _ < (4 : Int)
    assumption
  · simp only [List.forall_mem_cons]
    exact ⟨⟨_, _, rfl, trivial⟩, ⟨_, _, rfl, trivial⟩, ⟨_, _, rfl, trivial⟩, ⟨_, _, rfl, trivial⟩, fun _ h => nomatch h⟩
  intro sd ts _
  have N10 := news_tail N8
  clear N8 hb
  clear b0 b1 b2
  k_steps
  refine stop_out ?_
  (rename Fr _ _ _ _ => F10); (rename News _ _ _ _ => N10)
  refine set_spec (by k_asm) F10 (by k_asm) N10 (by k_asm) rfl hka (by ktr_room) (by ktr_units) ?_
  intro xs tls h11 tk11 F11 N11 B11 S11
  clear F10 N10
  have hIs : ∀ p ∈ tls, @Ne Nat p.1 I := fun p hp => B11 (I, _) (by repeat (first | exact List.mem_cons_self | refine List.mem_cons_of_mem _ ?_)) p hp
  have hUs : ∀ p ∈ tls, @Ne Nat p.1 u := fun p hp => B11 (u, _) (by repeat (first | exact List.mem_cons_self | refine List.mem_cons_of_mem _ ?_)) p hp
  have hCs : ∀ p ∈ tls, @Ne Nat p.1 (L + 1 + 1 + 1 + 1 + 1 + 1 + 1 + 1) := fun p hp => B11 (L + 1 + 1 + 1 + 1 + 1 + 1 + 1 + 1, _) (by repeat (first | exact List.mem_cons_self | refine List.mem_cons_of_mem _ ?_)) p hp
  k_steps
  refine stop_out ?_
  (rename Fr _ _ _ _ => F11); (rename News _ _ _ _ => N11)
  refine lawkind_plain (by k_asm) F11 (by k_asm) N11 (by k_asm) rfl (S11.mono fun p hp => List.mem_append_right _ hp) hkd (by ktr_room) (by ktr_units) ?_
  intro t12 h12 tk12 F12 N12
  clear F11 N11
  dsimp only
  simp only [List.cons_append] at N12
  k_steps
  refine stop_out ?_
  refine PyProof.Rows.getMethod_strTab_get (kinds_tab hKD N12 (by k_mem)) ?_
  k_steps
  refine stop_out ?_
  refine kinds_get3 hkd hKD N12 (by k_mem) ?_
  intro t13 tk13
  k_steps
  refine stop_out ?_
  obtain ⟨ok1, ok2⟩ := hkd.ok
  refine ne_same (d := .str (lvKind kd)) N12 (.str _ _) (.str _ _) (by simp [dOk, ok2]) (by ktr_units) ?_
  k_steps
  refine stop_out ?_
  refine kinds_in3 hkd hKD N12 (by k_mem) ?_
  intro tk14
  k_steps
  refine stop_out ?_
  (rename News _ _ _ _ => N13)
  refine pick_level N13 (by k_mem) hL (by assumption) ?_ (by omega) ?_
  · rw [hll]; assumption
  intro lx j hj hPj
  rw [levels_len] at hj
  have okq := levels_ok okg (S := S) (k := j) (by omega)
  have hqm : ((levels S g).getD j (0, 0, [])).2.2.length = many := by rw [levels_gs (by omega), hgm]
  generalize (levels S g).getD j (0, 0, []) = q at hPj okq hqm
  obtain ⟨wd, hg, gs⟩ := q
  dsimp only at hqm
  k_steps
  refine stop_out ?_
  (rename Fr _ _ _ _ => F14); (rename News _ _ _ _ => N14)
  refine frame_spec (by k_asm) F14 (by k_asm) N14 (by k_asm) rfl (hPj.mono fun p hp => by simp [hp]) (S11.mono fun p hp => by simp [hp]) hkd (by omega) (by omega) (by ktr_room) (by ktr_units) ?_
  intro fr tlf h15 tk15 F15 N15 B15 R15
  clear F14 N14
  simp only [List.cons_append] at N15
  rw [hqm] at R15
  have hIf : ∀ p ∈ tlf, @Ne Nat p.1 I := fun p hp => B15 (I, _) (by repeat (first | exact List.mem_cons_self | refine List.mem_cons_of_mem _ ?_)) p hp
  have hUf : ∀ p ∈ tlf, @Ne Nat p.1 u := fun p hp => B15 (u, _) (by repeat (first | exact List.mem_cons_self | refine List.mem_cons_of_mem _ ?_)) p hp
  have hCf : ∀ p ∈ tlf, @Ne Nat p.1 (L + 1 + 1 + 1 + 1 + 1 + 1 + 1 + 1) := fun p hp => B15 (L + 1 + 1 + 1 + 1 + 1 + 1 + 1 + 1, _) (by repeat (first | exact List.mem_cons_self | refine List.mem_cons_of_mem _ ?_)) p hp
  refine R15.elim ?_
  clear R15
  intro df fh1 ft1 fk1 fh2 ft2 fk2 fh3 ft3 fk3 fh4 ft4 fk4 fh5 ft5 fh6 ft6 fk6 fn cl ce cvs fm1 fm2 fm3 fm4 fm5
  refine S11.elim ?_
  clear S11
  intro dsx sh1 st1 sk1 sh2 st2 sk2 sh3 st3 sh4 st4 sk4 sh5 st5 sh6 st6 sh7 st7 sk7 sh8 st8 sk8 sn sm1 sm2
  refine hPj.elim ?_
  clear hPj
  intro dx0 h1 t1 tm0 h2 t2 tb0 h3 t3 pl n0 vs0 ee m1 m2 m3 hPl
  have hvl : vs0.length = gs.length := hPl.len
  have hv0 : 0 < vs0.length := by omega
  have hfx := List.getElem?_eq_getElem hv0
  obtain ⟨p0, e0, hpE⟩ := hPl.ok 0 (vs0[0]'hv0) hfx
  refine hpE.elim ?_
  clear hpE
  intro dq hh1 tt1 hh2 tt2 hh3 tt3 nq tw th vr hq hdq hvr okq0
  rw [e0] at hfx
  have hx0 : vs0[Int.toNat 0]? = some (.ref p0) := hfx
  dsimp only at hdq
  k_steps
  refine stop_out ?_
  (rename News _ _ _ _ => N16)
  refine kinds_item hkd hKD N16 (by k_mem) ?_
  intro t17 tk17
  k_steps
  refine stop_out ?_
  (rename News _ _ _ _ => N17)
  refine ne_same (d := .tuple [.str (lvKind kd), .int bits, .int wd, .int hg, .int sd]) N17 (.tuple (by k_mem) (.cons (.str _ _) (.cons (.int _ _) (.cons (.int _ _) (.cons (.int _ _) (.cons (.int _ _) .nil)))))) (.tuple (by k_mem) (.cons (.str _ _) (.cons (.int _ _) (.cons (.int _ _) (.cons (.int _ _) (.cons (.int _ _) .nil)))))) (by simp [dOk, ok2]) (by ktr_units) ?_
  k_steps
  refine stop_out ?_
  (rename News _ _ _ _ => N18)
  refine LCg.CompSrc.range (n := many) rfl (by assumption) N18 (by assumption) (small_nat (by omega)) (size_nat _) (by rw [sizeLine_eq]; omega) ?_
  intro g1
  refine comp_go (n := many) [] [] (fun M => M = []) (fun j tl v => ∃ t, v = Value.int (slotOf mdl j) t) (fun M h => by rw [h]; rfl) (by simp) (fun _ _ _ _ _ r => r) (fun _ _ _ => trivial) ?_ ?_ rfl
  · rintro j3 v3 I3 oI3 C3 oC3 D3 ys m3' h6 tk6 E6 M Y6 hj3 hl3 ⟨t3, hv3⟩ rfl hYa hZY off hne3 hC3 hx3 F6 N7
    obtain rfl : v3 = Value.int (j3 : Int) t3 := by rw [hv3]; simp
    have y1 := hZY _ (by k_mem : (L + 1 + 1, oM) ∈ _)
    k_steps
    refine stop_out ?_
    (rename News _ _ _ _ => N8)
    refine in_tuple_strs (ys := [("ycc" : Str), ("ycck" : Str)]) ⟨_, (N8 _ List.mem_cons_self).1, rfl, _, rfl⟩ (.cons _ _ (.cons _ _ .nil)) ?_
    rw [any_yc]
    by_cases hy : mdl = ("ycc" : Str) ∨ mdl = ("ycck" : Str)
    · rw [decide_eq_true hy]
      k_steps
      refine stop_out ?_
      (rename News _ _ _ _ => N9)
      refine in_tuple_ints (ns := [1, 2]) ⟨_, (N9 _ List.mem_cons_self).1, rfl, _, rfl⟩ (.cons _ _ (.cons _ _ .nil)) ?_
      rw [any_12]
      by_cases h12 : j3 = 1 ∨ j3 = 2
      · rw [decide_eq_true h12]
        k_steps
        exact cend_nil [] (by assumption) (news_off 2 (by assumption)) rfl ⟨_, by rw [slotOf, if_pos ⟨hy, h12⟩]⟩
      · rw [decide_eq_false h12]
        k_steps
        exact cend_nil [] (by assumption) (news_off 2 (by assumption)) rfl ⟨_, by rw [slotOf, if_neg fun h => h12 h.2]⟩
    · rw [decide_eq_false hy]
      k_steps
      exact cend_nil [] (by assumption) (news_off 1 (by assumption)) rfl ⟨_, by rw [slotOf, if_neg fun h => hy h.1]⟩
  · rintro ys3 M3 tl3 hl3 rfl hbh3 _ hR3
    intro D3 h3 tk3 F3 N3 off3
    simp only [List.nil_append, List.cons_append] at N3 off3
    have hC3 : ∀ p ∈ tl3, @Ne Nat p.1 (L + 1 + 1 + 1 + 1 + 1 + 1 + 1 + 1) := fun p hp => hbh3 (L + 1 + 1 + 1 + 1 + 1 + 1 + 1 + 1, _) (by repeat (first | exact List.mem_cons_self | refine List.mem_cons_of_mem _ ?_)) p hp
    have off4 := off3
    simp only [LCg.Off1] at off4
    k_steps
    refine stop_out ?_
    k_dflt (refine LCg.Assign_ListComp_U (F₀ := by k_asm) (by rfl) (by with_unfolding_all rfl) (by with_unfolding_all rfl) (by decide) (by rfl) (by decide) (by rfl) (by rfl) (by rfl) (stopQ ?_))
    k_steps
    refine stop_out ?_
    (rename News _ _ _ _ => N20)
    have szc : cvs.toArray.size = many := by rw [List.size_toArray, fm4]
    refine LCg.CompSrc.ledger rfl (by assumption) N20 (by k_mem : (cl, W.listOf cvs.toArray ce) ∈ _) (by rw [szc, sizeLine_eq]; omega) ?_
    intro g2
    rw [szc]
    refine comp_go (n := many) [] [] (fun M => M = []) (fun j tl v => DatIn tl v (.tuple [.int ((j : Int) + 1), .int 1, .int 1, .int (slotOf mdl j)])) (fun M h => by rw [h]; rfl) (by simp) (fun _ _ _ _ k r => r.mono k) ?_ ?_ ?_ rfl
    · rintro M tl9 rfl
      exact .inr ⟨_, List.mem_append_right _ (List.mem_append_left _ (by k_mem : (cl, W.listOf cvs.toArray ce) ∈ _)), rfl, _, rfl⟩
    · rintro j4 v4 I4 oI4 C4 oC4 D4 ys4 m4' h7 tk7 E7 M Y7 hj4 hl4 hw4 rfl hYa hZY off hne4 hC4 hx4 F7 N8
      obtain ⟨c, dc, ch1, ct1, ck1, ch2, ct2, ck2, ch3, ct3, ck3, ch4, ct4, ck4, cn, rfl, cq1, cq2⟩ := fm5 j4 v4 (by simpa using hw4)
      have z1 := hZY _ (by k_mem : (c, instObj 181 dc) ∈ _)
      have z2 := hZY _ (by k_mem : (dc, dictOf [ent ch1 "ident" ct1 (.int ((j4 : Int) + 1) ck1), ent ch2 "across" ct2 (.int 1 ck2), ent ch3 "down" ct3 (.int 1 ck3), ent ch4 "quant" ct4 (.int (slotOf mdl j4) ck4)] cn) ∈ _)
      k_steps
      rename_i lz
      exact cend_one (by assumption) (by assumption) (fun q hq => ktn_ltOf (l := (I4, oI4) :: (C4, oC4) :: (D4, LCg.lst ys4) :: ([] ++ Y7)) lz q hq) (.tuple List.mem_cons_self (.cons (.int _ _) (.cons (.int _ _) (.cons (.int _ _) (.cons (.int _ _) .nil)))))
    · rintro ys4 M4 tl4 hl4 rfl hbh4 _ hR4
      intro D4 h4 tk4 F4 N4 off4
      simp only [List.nil_append, List.cons_append] at N4 off4
      k_steps
      refine stop_out ?_
      (rename News _ _ _ _ => N21)
      refine LCg.CompSrc.range (n := many) rfl (by assumption) N21 (by assumption) (small_nat (by omega)) (size_nat _) (by rw [sizeLine_eq]; omega) ?_
      intro g3
      refine comp_go (n := many) [] [] (fun M => M = []) (fun j tl v => DatIn tl v (.tuple [.int ((j : Int) + 1), .int 1, .int 1, .int (slotOf mdl j)])) (fun M h => by rw [h]; rfl) (by simp) (fun _ _ _ _ k r => r.mono k) (fun _ _ _ => trivial) ?_ ?_ rfl
      · rintro j5 v5 I5 oI5 C5 oC5 D5 ys5 m5' h8 tk8 E8 M Y8 hj5 hl5 ⟨t5, hv5⟩ rfl hYa hZY off hne5 hC5 hx5 F8 N9
        obtain rfl : v5 = Value.int (j5 : Int) t5 := by rw [hv5]; simp
        simp only [List.forall_mem_cons] at hZY
        refine ae8 hZY ?_
        clear hZY
        intro _ zD3 _ _ _ _ zS zt
        have hj6 : j5 < ys3.length := by rw [hl3]; exact hj5
        obtain ⟨t6, h6⟩ := hR3 j5 _ (List.getElem?_eq_getElem hj6)
        have hx6 : ys3[Int.toNat (j5 : Int)]? = some (Value.int (slotOf mdl j5) t6) := by
          rw [Int.toNat_natCast, List.getElem?_eq_getElem hj6, h6]
        k_steps
        rename_i lz
        exact cend_one (by assumption) (by assumption) (fun q hq => ktn_ltOf (l := (I5, oI5) :: (C5, oC5) :: (D5, LCg.lst ys5) :: ([] ++ Y8)) lz q hq) (.tuple List.mem_cons_self (.cons (.int _ _) (.cons (.int _ _) (.cons (.int _ _) (.cons (.int _ _) .nil)))))
      · rintro ys5 M5 tl5 hl5 rfl hbh5 _ hR5
        intro D5 h5 tk5 F5 N5 off5
        simp only [List.nil_append, List.cons_append] at N5 off5
        k_steps
        refine stop_out ?_
        (rename News _ _ _ _ => N22)
        refine ne_same (d := .list ((List.range many).map fun (j : Nat) => Dat.tuple [.int ((j : Int) + 1), .int 1, .int 1, .int (slotOf mdl j)])) N22 (.list (by k_mem) ((dats_of_get hl4 hR4).mono fun p hp => by simp [hp])) (.list (by k_mem) ((dats_of_get hl5 hR5).mono fun p hp => by simp [hp])) ok_comps (by ktr_units) ?_
        k_steps
        refine stop_out ?_
        (rename News _ _ _ _ => N23)
        refine ne_same (d := .tuple [.str kd, .int sd, .str mdl]) N23 (.tuple (by k_mem) (.cons (.str _ _) (.cons (.int _ _) (.cons (.str _ _) .nil)))) (.tuple (by k_mem) (.cons (.str _ _) (.cons (.int _ _) (.cons (.str _ _) .nil)))) (by simp [dOk, ok1, hmd]) (by ktr_units) ?_
        k_steps
        (rename News _ _ _ _ => N24)
        refine ret _ _ _ _ _ _ _ _ _ _ (by assumption) ?_ (news_sub3 (fun p hp => by simp [hp]) (news_off 7 N24)) ⟨by assumption, by assumption, by assumption⟩ (by assumption)
        intro z hz
        simp only [List.contains_cons, List.contains_nil, Bool.or_eq_false_iff, beq_eq_false_iff_ne] at hz
        refine ae8 hz ?_
        clear hz
        intro z1 z2 z3 z4 z5 z6 z7 _
        simp [z1, z2, z3, z4, z5, z6, z7]
end
end
section




section
variable {w : World} {p : Program} {loose : List Str} {mean : ExcName → Option Value} {mg mb : Str → Option Value} {h₀ : Heap} {L fA : Addr} {ccd : Value} {s : Shared} {E₁ : Value → Shared → Prop} {Post : Flow → Shared → Prop}
theorem kwC57_1 : True := by
  w_top off
  k_with_none
  (k_with "andf" => (first | assumption | exact And.left (by assumption) | exact And.left (And.right (by assumption)) | exact And.left (And.right (And.right (by assumption))) | exact And.left (And.right (And.right (And.right (by assumption)))) | exact And.left (And.right (And.right (And.right (And.right (by assumption))))) | exact And.left (And.right (And.right (And.right (And.right (And.right (by assumption)))))) | exact And.left (And.right (And.right (And.right (And.right (And.right (And.right (by assumption))))))) | exact And.left (And.right (And.right (And.right (And.right (And.right (And.right (And.right (by assumption)))))))) | exact And.left (And.right (And.right (And.right (And.right (And.right (And.right (And.right (And.right (by assumption))))))))) | exact And.left (And.right (And.right (And.right (And.right (And.right (And.right (And.right (And.right (And.right (by assumption)))))))))) | exact And.left (And.right (And.right (And.right (And.right (And.right (And.right (And.right (And.right (And.right (And.right (by assumption))))))))))) | exact And.left (And.right (And.right (And.right (And.right (And.right (And.right (And.right (And.right (And.right (And.right (And.right (by assumption)))))))))))) | exact And.left (And.right (And.right (And.right (And.right (And.right (And.right (And.right (And.right (And.right (And.right (And.right (And.right (by assumption))))))))))))) | exact And.left (And.right (And.right (And.right (And.right (And.right (And.right (And.right (And.right (And.right (And.right (And.right (And.right (And.right (by assumption))))))))))))))))
  (k_with "k_ne" => ((refine neN ?_; (try dsimp only); first | assumption | exact fun kwe9 => absurd kwe9.symm (by assumption) | exact ne_up1 | exact up_ne1 | exact ne_up2 | exact up_ne2 | exact ne_up3 | exact up_ne3 | exact ne_up4 | exact up_ne4 | exact ne_up5 | exact up_ne5 | exact ne_up6 | exact up_ne6 | exact ne_up7 | exact up_ne7 | exact Nat.ne_of_gt (by k_extra "andf") | exact Nat.ne_of_lt (by k_extra "andf") | omega)))
  (k_with "ktr_rel" => (first | exact List.mem_cons_self | ktr_member | (refine List.mem_cons_of_mem _ ?_; ktr_rel) | (refine List.mem_append.mpr (Or.inl ?_); ktr_rel) | (refine List.mem_append.mpr (Or.inr ?_); ktr_rel)))
  (k_with "call ref" => (((with_reducible show wpAny _ _ (call (Value.ref 307) _) _ _ _); k_dflt (refine lot3_spec (by k_asm) (by k_asm) (by k_asm) (by k_asm) (by k_asm) (by first | rfl | assumption) (by k_updF) (by assumption) (by assumption) (by assumption) (by first | decide | omega) (by first | decide | omega) (by ktr_room) (by ktr_units) ?_); intro kwd9 kwt9 kwx9 kwy9 kws9 kwu9 kwn9 kwh kwtk kwhd9 kwhe9 kwhx9 kwhy9 kwhz9 kwF kwN; (try dsimp only at kwN); (try dsimp only); (try k_sweep))))
  (k_with "call ref" => (((with_reducible show wpAny _ _ (call (Value.ref 289) _) _ _ _); refine stop_in ?_)))
  (k_with "call ref" => (((with_reducible show wpAny _ _ (call (Value.ref 326) _) _ _ _); refine stop_in ?_)))
  (k_with "call ref" => (((with_reducible show wpAny _ _ (call (Value.ref 265) _) _ _ _); refine stop_in ?_)))
  (k_with "size_fits" => (((simp only [List.size_toArray, PySem.sizeLine_eq]); omega)))
  (k_with "k_all" => (first | assumption | (refine List.forall_mem_append.mpr ⟨(by k_all), (by k_all)⟩) | (intro kwp9 kwhp9; have kwh9 := (by assumption : ∀ p ∈ _, @LT.lt Nat _ p.1 _) kwp9 kwhp9; refine neN ?_; (try dsimp only at kwh9 ⊢); omega)))
  (k_with "compareOp NotEq ref ref" => ((refine stop_in ?_)))
  (k_with "compareOp NotEq str str" => ((refine stop_in ?_)))
  (k_with "compareOp In str ref" => ((refine stop_in ?_)))
  (k_with "compareOp In int ref" => ((refine stop_in ?_)))
  (k_with "exec Assign cons ListComp" => (((with_reducible show wpAny _ _ (exec (Stmt.Assign [Expr.Name ("rows" : Str) _] _ _) _) _ _ _); refine stop_in ?_)))
  (k_with "subscriptTail Name Name ref int" => ((k_dflt (refine item_led (by k_asm) (by k_mem) (by omega) (by omega) (by assumption) ?_))))
  (k_with "getMethod ref" => ((refine stop_in ?_)))
  (k_with "call builtin:dict.get" => ((refine stop_in ?_)))
  (k_with "eval ListComp" => (((with_reducible show wpAny _ _ (eval (Expr.ListComp _ [⟨_, _, _, _⟩] _ _) _) _ _ _); k_dflt (refine LCg.ListComp_U (F₀ := by k_asm) (by with_unfolding_all rfl) (by decide) (by rfl) (by decide) (by rfl) (stopQ ?_)))))
  (k_with "subscriptTail" => (((with_reducible show wpAny _ _ (subscriptTail (Expr.List _ _) _ _ _) _ _ _); refine stop_in ?_)))
  (k_with "subscriptTail Name Call ref int" => ((refine stop_in ?_)))
  (k_with "subscriptTail Name Name ref str" => ((refine stop_in ?_)))
  (k_with "subscriptTail" => (((with_reducible show wpAny _ _ (subscriptTail _ (Expr.Constant (Const.int 0) _ _) _ _) _ _ _); k_dflt (refine item_led (by k_asm) (by k_mem) (by decide) (by decide) (by assumption) ?_))))
  (k_with "call builtin:len" => (((with_reducible show wpAny _ _ (call (Value.builtin "len") [Value.ref _]) _ _ _); k_dflt (refine len_led (by k_asm) (by k_mem) (by assumption) (by omega) ?_; k_whole))))
  trivial
theorem turn2b {px : Pos} {I u fa kdA : Addr} {oI oS oU oM oB oD : Obj} {Y : List (Addr × Obj)} {mdl kd : Str} {bits x0 x1 : Int} {tm tb t tn t0 t1 : Tok} {vk : Option Value} {fv : List Value} {fe many nn : Nat} {S : List (Bool × Bool)} {g : LV} {uu u₀ : Str → Option Value}
  (B : Below callerA h₀ [] h₀) (X : (hd.heap_1 w.params).In h₀) (T : Top p loose mean mg mb h₀)
  (F : Fr h₀ L s.heap (fun z => if (["kind", "side", "settings", "level", "frame", "told", "rows"] : List Str).contains z then uu z else (fun z => if z = ("found" : Str) then some (.ref fa) else if z = ("many" : Str) then some (.int (many : Int) tn) else if z = ("kinds" : Str) then some (.ref kdA) else u₀ z) z))
  (N : News h₀ L s.heap ((I, oI) :: (u, urnO x0 x1 t0 t1 nn) :: (L + 1 + 1 + 1 + 1 + 1 + 1 + 1 + 1, oS) :: Y)) (hb : UrnB x0 x1) (n1 : @Ne Nat I u) (n2 : @Ne Nat I (L + 1 + 1 + 1 + 1 + 1 + 1 + 1 + 1)) (n3 : @Ne Nat u (L + 1 + 1 + 1 + 1 + 1 + 1 + 1 + 1)) (hI : ∀ p ∈ Y, @Ne Nat p.1 I) (hU : ∀ p ∈ Y, @Ne Nat p.1 u) (hC : ∀ p ∈ Y, @Ne Nat p.1 (L + 1 + 1 + 1 + 1 + 1 + 1 + 1 + 1))
  (cU : (L + 1, oU) ∈ Y) (dU : oU.data = .cell (some (.ref u))) (cM : (L + 1 + 1, oM) ∈ Y) (dM : oM.data = .cell (some (.str mdl tm))) (cB : (L + 1 + 1 + 1, oB) ∈ Y) (dB : oB.data = .cell (some (.int bits tb))) (dS : oS.data = .cell vk)
  (hkd : Kind2 kd) (hKD : KindsAt w kdA oD) (hkA : (kdA, oD) ∈ Y)
  (hfa : (fa, listOf fv.toArray fe) ∈ Y) (hL : LevelsAt Y fv mdl bits (levels S g)) (okg : LvOk g) (hgm : g.2.2.length = many) (hm0 : 1 ≤ many) (hm4 : many ≤ 4) (hS9 : S.length < 4) (hmd : PyData.strOk mdl = true)
  (ret : ∀ (m' : Str → Option Value) (x0' x1' : Int) (t0' t1' : Tok) (nn' : Nat) (oS' : Obj) (vk' : Option Value) (h' : Heap) (tk' : Nat), Fr h₀ L h' m' → (∀ z, (["kind", "side", "settings", "level", "frame", "told", "rows"] : List Str).contains z = false → m' z = (fun z => if z = ("found" : Str) then some (.ref fa) else if z = ("many" : Str) then some (.int (many : Int) tn) else if z = ("kinds" : Str) then some (.ref kdA) else u₀ z) z) →
    News h₀ L h' ((I, oI) :: (u, urnO x0' x1' t0' t1' nn') :: (L + 1 + 1 + 1 + 1 + 1 + 1 + 1 + 1, oS') :: Y) → UrnB x0' x1' → oS'.data = .cell vk' → Post .next { s with heap := h', toks := tk' }) :
  wpAny (model PySem.Challenge.rw_ok0141_01.row.prog w) (lawA L fA ccd) (assign (.Name ("kind" : Str) px) (lawEnv L fA ccd) (.str kd t)) (fun _ s₃ => wpAny (model PySem.Challenge.rw_ok0141_01.row.prog w) (lawA L fA ccd) (execs (forBody (lawAt 12)) (lawEnv L fA ccd)) Post (lawE w L fA ccd E₁) s₃) (lawE w L fA ccd E₁) s := by
  have hfill : PySem.Challenge.rw_ok0141_01 = PySem.Challenge.rw_ok0141_01 ∧ hd.heap_1 = hd.heap_1 := by k_fill; exact ⟨rfl, rfl⟩
  clear hfill
  show wpAny _ (callerA.deeper (envOfC ("law" : Str) ⟨_, _, _, _, _⟩ L fA ccd)) (assign _ (envOfC ("law" : Str) ⟨_, _, _, _, _⟩ L fA ccd) _) (fun _ s₃ => wpAny _ (callerA.deeper (envOfC ("law" : Str) ⟨_, _, _, _, _⟩ L fA ccd)) (execs [_, _, _, _] (envOfC ("law" : Str) ⟨_, _, _, _, _⟩ L fA ccd)) _ _ s₃) _ _
  dsimp only
  have hll : fv.length = S.length + 1 := by rw [hL.len, levels_len]
  have hka := hkd.all
  have b0 := hb.1
  have b1 := hb.2.1
  have b2 := hb.2.2
  k_steps
  refine stop_out ?_
  (rename News _ _ _ _ => N8)
  refine pick_int (vs := [_, _, _, _]) (P := fun _ => True) N8 List.mem_cons_self ?_ ?_ (by simp) ?_ ?_
  · assumption
  · show _ < (4 : Int)
    assumption
  · simp only [List.forall_mem_cons]
    exact ⟨⟨_, _, rfl, trivial⟩, ⟨_, _, rfl, trivial⟩, ⟨_, _, rfl, trivial⟩, ⟨_, _, rfl, trivial⟩, fun _ h => nomatch h⟩
  intro sd ts _
  have N10 := news_tail N8
  clear N8 hb
  clear b0 b1 b2
  k_steps
  refine stop_out ?_
  (rename Fr _ _ _ _ => F10); (rename News _ _ _ _ => N10)
  refine set_spec (by k_asm) F10 (by k_asm) N10 (by k_asm) rfl hka (by ktr_room) (by ktr_units) ?_
  intro xs tls h11 tk11 F11 N11 B11 S11
  clear F10 N10
  have hIs : ∀ p ∈ tls, @Ne Nat p.1 I := fun p hp => B11 (I, _) (by repeat (first | exact List.mem_cons_self | refine List.mem_cons_of_mem _ ?_)) p hp
  have hUs : ∀ p ∈ tls, @Ne Nat p.1 u := fun p hp => B11 (u, _) (by repeat (first | exact List.mem_cons_self | refine List.mem_cons_of_mem _ ?_)) p hp
  have hCs : ∀ p ∈ tls, @Ne Nat p.1 (L + 1 + 1 + 1 + 1 + 1 + 1 + 1 + 1) := fun p hp => B11 (L + 1 + 1 + 1 + 1 + 1 + 1 + 1 + 1, _) (by repeat (first | exact List.mem_cons_self | refine List.mem_cons_of_mem _ ?_)) p hp
  k_steps
  refine stop_out ?_
  (rename Fr _ _ _ _ => F11); (rename News _ _ _ _ => N11)
  refine lawkind_arith (by k_asm) F11 (by k_asm) N11 (by k_asm) rfl (S11.mono fun p hp => List.mem_append_right _ hp) hkd (by ktr_room) (by ktr_units) ?_
  intro t12 h12 tk12 F12 N12
  clear F11 N11
  dsimp only
  simp only [List.cons_append] at N12
  k_steps
  refine stop_out ?_
  refine PyProof.Rows.getMethod_strTab_get (kinds_tab hKD N12 (by k_mem)) ?_
  k_steps
  refine stop_out ?_
  refine kinds_get2 hkd hKD N12 (by k_mem) ?_
  intro t13 tk13
  k_steps
  refine stop_out ?_
  refine ne_same (d := .str ("none" : Str)) N12 (.str _ _) (.str _ _) (by decide +kernel) (by ktr_units) ?_
  k_steps
  refine stop_out ?_
  refine kinds_in2 hkd hKD N12 (by k_mem) ?_
  intro tk14
  k_steps
  refine ret _ _ _ _ _ _ _ _ _ _ (by assumption) ?_ (news_sub3 (fun p hp => by simp [hp]) N12) ⟨by assumption, by assumption, by assumption⟩ dS
  intro z hz
  simp only [List.contains_cons, List.contains_nil, Bool.or_eq_false_iff, beq_eq_false_iff_ne] at hz
  refine ae8 hz ?_
  clear hz
  intro z1 z2 z3 z4 z5 z6 z7 _
  simp [z1, z2, z3, z4, z5, z6, z7]
end
end
section
theorem kwP57_1 : True := by
  w_top off
  k_with_none
  (k_with "andf" => (first | assumption | exact And.left (by assumption) | exact And.left (And.right (by assumption)) | exact And.left (And.right (And.right (by assumption))) | exact And.left (And.right (And.right (And.right (by assumption)))) | exact And.left (And.right (And.right (And.right (And.right (by assumption))))) | exact And.left (And.right (And.right (And.right (And.right (And.right (by assumption)))))) | exact And.left (And.right (And.right (And.right (And.right (And.right (And.right (by assumption))))))) | exact And.left (And.right (And.right (And.right (And.right (And.right (And.right (And.right (by assumption)))))))) | exact And.left (And.right (And.right (And.right (And.right (And.right (And.right (And.right (And.right (by assumption))))))))) | exact And.left (And.right (And.right (And.right (And.right (And.right (And.right (And.right (And.right (And.right (by assumption)))))))))) | exact And.left (And.right (And.right (And.right (And.right (And.right (And.right (And.right (And.right (And.right (And.right (by assumption))))))))))) | exact And.left (And.right (And.right (And.right (And.right (And.right (And.right (And.right (And.right (And.right (And.right (And.right (by assumption)))))))))))) | exact And.left (And.right (And.right (And.right (And.right (And.right (And.right (And.right (And.right (And.right (And.right (And.right (And.right (by assumption))))))))))))) | exact And.left (And.right (And.right (And.right (And.right (And.right (And.right (And.right (And.right (And.right (And.right (And.right (And.right (And.right (by assumption))))))))))))))))
  (k_with "k_ne" => ((refine neN ?_; (try dsimp only); first | assumption | exact fun kwe9 => absurd kwe9.symm (by assumption) | exact ne_up1 | exact up_ne1 | exact ne_up2 | exact up_ne2 | exact ne_up3 | exact up_ne3 | exact ne_up4 | exact up_ne4 | exact ne_up5 | exact up_ne5 | exact ne_up6 | exact up_ne6 | exact ne_up7 | exact up_ne7 | exact Nat.ne_of_gt (by k_extra "andf") | exact Nat.ne_of_lt (by k_extra "andf") | omega)))
  (k_with "ktr_rel" => (first | exact List.mem_cons_self | ktr_member | (refine List.mem_cons_of_mem _ ?_; ktr_rel) | (refine List.mem_append.mpr (Or.inl ?_); ktr_rel) | (refine List.mem_append.mpr (Or.inr ?_); ktr_rel)))
  trivial
def stepD (s : Bool × Bool) : Dat := .tuple [.bool s.1, .bool s.2]
theorem steps_dat {Z : List (Addr × Obj)} : ∀ {vs : List Value} {S : List (Bool × Bool)}, StepsAt Z vs S → DatAll Z vs (S.map stepD)
  | [], [], _ => .nil
  | [], _ :: _, h => nomatch h.len
  | _ :: _, [], h => nomatch h.len
  | v :: vs, s :: S, h => by
    obtain ⟨p, n, s', e, rfl, hm⟩ := h.ok 0 v rfl
    obtain rfl : s = s' := by simpa using e
    refine .cons (.tuple hm (.cons (.bool _) (.cons (.bool _) .nil))) (steps_dat ⟨by simpa using h.len, fun j w hw => ?_⟩)
    obtain ⟨p, n, s', e, hv, hm⟩ := h.ok (j + 1) w (by simpa using hw)
    exact ⟨p, n, s', by simpa using e, hv, hm⟩
theorem ok_steps {S : List (Bool × Bool)} : dOk 9 (.list (S.map stepD)) = true := by
  simp only [dOk, List.all_map, List.all_eq_true]
  intro x _
  rfl
theorem size_down (n : Nat) : Builtin.Range.rangeSize (n : Int) (-1) (-1) = ((n + 1 : Nat) : Int) := by
  unfold Builtin.Range.rangeSize
  simp
  omega
theorem small_down {n : Nat} (h : n < 100000) : Builtin.Range.small (n : Int) (-1) (-1) = true := by
  unfold Builtin.Range.small
  rw [size_down]
  unfold Builtin.Range.rangeFitsLong
  simp
  omega
abbrev mRest (fa sp px sm : Addr) (many : Nat) (tn : Tok) (u₀ : Str → Option Value) : Str → Option Value := fun z => if z = ("found" : Str) then some (.ref fa) else if z = ("steps" : Str) then some (.ref sp) else if z = ("picture" : Str) then some (.ref px) else if z = ("samples" : Str) then some (.ref sm) else if z = ("many" : Str) then some (.int (many : Int) tn) else u₀ z
abbrev mBase (fa : Addr) (many : Nat) (tn : Tok) (u₀ : Str → Option Value) : Str → Option Value := fun z => if z = ("found" : Str) then some (.ref fa) else if z = ("many" : Str) then some (.int (many : Int) tn) else u₀ z
abbrev mBase2 (fa : Addr) (many : Nat) (tn : Tok) (kdA : Addr) (u₀ : Str → Option Value) : Str → Option Value := fun z => if z = ("found" : Str) then some (.ref fa) else if z = ("many" : Str) then some (.int (many : Int) tn) else if z = ("kinds" : Str) then some (.ref kdA) else u₀ z
def G1 (Z : List (Addr × Obj)) (cK : Addr) (S : List (Bool × Bool)) (g : LV) (base : Str → Option Value) (i : Nat) (m : Str → Option Value) (nx : List (Addr × Obj)) : Prop :=
  ∃ (da : Addr) (dv : List Value) (de : Nat) (oK : Obj) (vk : Option Value) (Y : List (Addr × Obj)) (u : Str → Option Value), m = (fun z => if z = ("due" : Str) then some (.ref da) else if (["level"] : List Str).contains z then u z else base z) ∧ nx = (cK, oK) :: Y ∧ (∀ p ∈ Z, p ∈ Y) ∧ (∀ p ∈ Y, @Ne Nat p.1 cK) ∧ oK.data = .cell vk ∧
    (da, listOf dv.toArray de) ∈ Y ∧ DatAll Y dv (((levels S g).getD (S.length - i) (0, 0, [])).2.2.map gD)
def G2 (Y : List (Addr × Obj)) (u cS : Addr) (base : Str → Option Value) (_i : Nat) (m : Str → Option Value) (nx : List (Addr × Obj)) : Prop :=
  ∃ (x0 x1 : Int) (t0 t1 : Tok) (nn : Nat) (oS : Obj) (vk : Option Value) (uu : Str → Option Value), m = (fun z => if (["kind", "side", "settings", "level", "frame", "told", "rows"] : List Str).contains z then uu z else base z) ∧ nx = (u, urnO x0 x1 t0 t1 nn) :: (cS, oS) :: Y ∧ UrnB x0 x1 ∧ oS.data = .cell vk
theorem g1_map {m base : Str → Option Value} {da : Addr} (h1 : m ("due" : Str) = some (.ref da)) (h2 : ∀ z, z ≠ ("due" : Str) → z ≠ ("level" : Str) → m z = base z) : m = (fun z => if z = ("due" : Str) then some (.ref da) else if (["level"] : List Str).contains z then m z else base z) := by
  funext z
  by_cases a : z = ("due" : Str)
  · rw [if_pos a, a, h1]
  · rw [if_neg a]
    by_cases b : z = ("level" : Str)
    · rw [b]; rfl
    · rw [if_neg (by simpa using b)]
      exact h2 z a b
theorem g2_map {m base : Str → Option Value} (h2 : ∀ z, (["kind", "side", "settings", "level", "frame", "told", "rows"] : List Str).contains z = false → m z = base z) : m = (fun z => if (["kind", "side", "settings", "level", "frame", "told", "rows"] : List Str).contains z then m z else base z) := by
  funext z
  cases hz : (["kind", "side", "settings", "level", "frame", "told", "rows"] : List Str).contains z with
  | true => rw [if_pos rfl]
  | false => rw [if_neg (by decide)]; exact h2 z hz
theorem levels_last {S : List (Bool × Bool)} {g : LV} : (levels S g).getD S.length (0, 0, []) = g := by
  induction S with
  | nil => rfl
  | cons s S ih => simpa [levels] using ih
theorem mbase_eq {fa sp px sm : Addr} {many : Nat} {tn : Tok} {u₀ : Str → Option Value} (z : Str) : mRest fa sp px sm many tn u₀ z = mBase fa many tn (mRest fa sp px sm many tn u₀) z := by
  by_cases z3 : z = ("found" : Str)
  · subst z3; rfl
  · by_cases z4 : z = ("many" : Str)
    · subst z4; rfl
    · rw [mBase, if_neg z3, if_neg z4]
theorem mbase2_eq {fa kdA : Addr} {many : Nat} {tn : Tok} {m : Str → Option Value} (h1 : m ("found" : Str) = some (.ref fa)) (h2 : m ("many" : Str) = some (.int (many : Int) tn)) (h3 : m ("kinds" : Str) = some (.ref kdA)) (z : Str) : m z = mBase2 fa many tn kdA m z := by
  by_cases z3 : z = ("found" : Str)
  · rw [mBase2, if_pos z3, z3, h1]
  · by_cases z4 : z = ("many" : Str)
    · rw [mBase2, if_neg z3, if_pos z4, z4, h2]
    · by_cases z5 : z = ("kinds" : Str)
      · rw [mBase2, if_neg z3, if_neg z4, if_pos z5, z5, h3]
      · rw [mBase2, if_neg z3, if_neg z4, if_neg z5]
end
section
theorem kwC58_1 : True := by
  w_top off
  k_with_none
  (k_with "andf" => (first | assumption | exact And.left (by assumption) | exact And.left (And.right (by assumption)) | exact And.left (And.right (And.right (by assumption))) | exact And.left (And.right (And.right (And.right (by assumption)))) | exact And.left (And.right (And.right (And.right (And.right (by assumption))))) | exact And.left (And.right (And.right (And.right (And.right (And.right (by assumption)))))) | exact And.left (And.right (And.right (And.right (And.right (And.right (And.right (by assumption))))))) | exact And.left (And.right (And.right (And.right (And.right (And.right (And.right (And.right (by assumption)))))))) | exact And.left (And.right (And.right (And.right (And.right (And.right (And.right (And.right (And.right (by assumption))))))))) | exact And.left (And.right (And.right (And.right (And.right (And.right (And.right (And.right (And.right (And.right (by assumption)))))))))) | exact And.left (And.right (And.right (And.right (And.right (And.right (And.right (And.right (And.right (And.right (And.right (by assumption))))))))))) | exact And.left (And.right (And.right (And.right (And.right (And.right (And.right (And.right (And.right (And.right (And.right (And.right (by assumption)))))))))))) | exact And.left (And.right (And.right (And.right (And.right (And.right (And.right (And.right (And.right (And.right (And.right (And.right (And.right (by assumption))))))))))))) | exact And.left (And.right (And.right (And.right (And.right (And.right (And.right (And.right (And.right (And.right (And.right (And.right (And.right (And.right (by assumption))))))))))))))))
  (k_with "k_ne" => ((refine neN ?_; (try dsimp only); first | assumption | exact fun kwe9 => absurd kwe9.symm (by assumption) | exact ne_up1 | exact up_ne1 | exact ne_up2 | exact up_ne2 | exact ne_up3 | exact up_ne3 | exact ne_up4 | exact up_ne4 | exact ne_up5 | exact up_ne5 | exact ne_up6 | exact up_ne6 | exact ne_up7 | exact up_ne7 | exact Nat.ne_of_gt (by k_extra "andf") | exact Nat.ne_of_lt (by k_extra "andf") | omega)))
  (k_with "ktr_rel" => (first | exact List.mem_cons_self | ktr_member | (refine List.mem_cons_of_mem _ ?_; ktr_rel) | (refine List.mem_append.mpr (Or.inl ?_); ktr_rel) | (refine List.mem_append.mpr (Or.inr ?_); ktr_rel)))
  trivial
abbrev vs5 (a1 a2 a3 a4 a5 : Tok) : List Value := [Value.str ("baseline" : Str) a1, Value.str ("extended" : Str) a2, Value.str ("progressive" : Str) a3, Value.str ("arith" : Str) a4, Value.str ("arith progressive" : Str) a5]
section
variable {w : World} {p : Program} {loose : List Str} {mean : ExcName → Option Value} {mg mb : Str → Option Value} {h₀ : Heap} {L fA : Addr} {ccd : Value} {s : Shared} {E₁ : Value → Shared → Prop} {Q : Flow → Shared → Prop}
theorem loop2 {px : Pos} {u fa kdA l : Addr} {oS oU oM oB oD : Obj} {Z : List (Addr × Obj)} {mdl : Str} {bits x0 x1 : Int} {tm tb tn t0 t1 a1 a2 a3 a4 a5 : Tok} {vk : Option Value} {fv : List Value} {fe many nn e : Nat} {S : List (Bool × Bool)} {g : LV} {m : Str → Option Value}
  (B : Below callerA h₀ [] h₀) (X : (hd.heap_1 w.params).In h₀) (T : Top p loose mean mg mb h₀) (F : Fr h₀ L s.heap m) (hm1 : m ("found" : Str) = some (.ref fa)) (hm2 : m ("many" : Str) = some (.int (many : Int) tn)) (hm3 : m ("kinds" : Str) = some (.ref kdA))
  (N : News h₀ L s.heap ((l, listOf (vs5 a1 a2 a3 a4 a5).toArray e) :: (kdA, oD) :: (u, urnO x0 x1 t0 t1 nn) :: (L + 1 + 1 + 1 + 1 + 1 + 1 + 1 + 1, oS) :: Z)) (hb : UrnB x0 x1)
  (n3 : @Ne Nat u (L + 1 + 1 + 1 + 1 + 1 + 1 + 1 + 1)) (hU : ∀ p ∈ Z, @Ne Nat p.1 u) (hC : ∀ p ∈ Z, @Ne Nat p.1 (L + 1 + 1 + 1 + 1 + 1 + 1 + 1 + 1)) (l1 : @Ne Nat l u ∧ @Ne Nat l (L + 1 + 1 + 1 + 1 + 1 + 1 + 1 + 1)) (l2 : @Ne Nat kdA u ∧ @Ne Nat kdA (L + 1 + 1 + 1 + 1 + 1 + 1 + 1 + 1))
  (cU : (L + 1, oU) ∈ Z) (dU : oU.data = .cell (some (.ref u))) (cM : (L + 1 + 1, oM) ∈ Z) (dM : oM.data = .cell (some (.str mdl tm))) (cB : (L + 1 + 1 + 1, oB) ∈ Z) (dB : oB.data = .cell (some (.int bits tb))) (dS : oS.data = .cell vk) (hKD : KindsAt w kdA oD)
  (hfa : (fa, listOf fv.toArray fe) ∈ Z) (hL : LevelsAt Z fv mdl bits (levels S g)) (okg : LvOk g) (hgm : g.2.2.length = many) (hm0 : 1 ≤ many) (hm4 : many ≤ 4) (hS9 : S.length < 4) (hmd : PyData.strOk mdl = true)
  (ret : ∀ (uu : Str → Option Value) (h' : Heap) (tk' : Nat), Fr h₀ L h' (fun z => if (["kind", "side", "settings", "level", "frame", "told", "rows"] : List Str).contains z then uu z else mBase2 fa many tn kdA m z) → News h₀ L h' Z → Q .next { s with heap := h', toks := tk' }) :
  wpAny (model PySem.Challenge.rw_ok0141_01.row.prog w) (lawA L fA ccd) (pyIter (.ref l)) (fun it s₂ => TurnsAt PySem.Challenge.rw_ok0141_01.row.prog w (lawA L fA ccd) h₀ (lawEnv L fA ccd) (.Name ("kind" : Str) px) (forBody (lawAt 12)) Q (lawE w L fA ccd E₁) it s₂) (lawE w L fA ccd E₁) s := by
  have N1 : News h₀ L s.heap ((u, urnO x0 x1 t0 t1 nn) :: (L + 1 + 1 + 1 + 1 + 1 + 1 + 1 + 1, oS) :: (l, listOf (vs5 a1 a2 a3 a4 a5).toArray e) :: (kdA, oD) :: Z) := fun p hp => N p (by
    simp only [List.mem_cons] at hp ⊢
    rcases hp with h | h | h | h | h <;> simp [h])
  have zt : ∀ p ∈ Z, p ∈ (l, listOf (vs5 a1 a2 a3 a4 a5).toArray e) :: (kdA, oD) :: Z := fun p hp => List.mem_cons_of_mem _ (List.mem_cons_of_mem _ hp)
  have yU := ne_cons (a := (l, listOf (vs5 a1 a2 a3 a4 a5).toArray e)) l1.1 (ne_cons (a := (kdA, oD)) l2.1 hU)
  have yC := ne_cons (a := (l, listOf (vs5 a1 a2 a3 a4 a5).toArray e)) l1.2 (ne_cons (a := (kdA, oD)) l2.2 hC)
  refine list_T (vs := vs5 a1 a2 a3 a4 a5) (e := e) (G2 ((l, listOf (vs5 a1 a2 a3 a4 a5).toArray e) :: (kdA, oD) :: Z) u (L + 1 + 1 + 1 + 1 + 1 + 1 + 1 + 1) (mBase2 fa many tn kdA m)) rfl ?_ F N1 ⟨x0, x1, t0, t1, nn, oS, vk, m, g2_map (fun z _ => mbase2_eq hm1 hm2 hm3 z), rfl, hb, dS⟩ ?_ ?_
  · rintro i m' nx ⟨_, _, _, _, _, _, _, _, _, rfl, _⟩
    simp
  · rintro i v m₁ nx h tk I oI hv ⟨y0, y1, s0, s1, mm, oS', vk', uu, rfl, rfl, hb', dS'⟩ hI F1 N2
    have hI1 := hI _ List.mem_cons_self
    have hI2 := hI (L + 1 + 1 + 1 + 1 + 1 + 1 + 1 + 1, oS') (by simp)
    have hI3 := fun p hp => hI p (List.mem_cons_of_mem _ (List.mem_cons_of_mem _ hp))
    have fin : ∀ (m' : Str → Option Value) (x0' x1' : Int) (t0' t1' : Tok) (nn' : Nat) (oS' : Obj) (vk' : Option Value) (h' : Heap) (tk' : Nat), Fr h₀ L h' m' → (∀ z, (["kind", "side", "settings", "level", "frame", "told", "rows"] : List Str).contains z = false → m' z = mBase2 fa many tn kdA m z) →
      News h₀ L h' ((I, oI) :: (u, urnO x0' x1' t0' t1' nn') :: (L + 1 + 1 + 1 + 1 + 1 + 1 + 1 + 1, oS') :: (l, listOf (vs5 a1 a2 a3 a4 a5).toArray e) :: (kdA, oD) :: Z) → UrnB x0' x1' → oS'.data = .cell vk' →
      TEnd h₀ L I oI (G2 ((l, listOf (vs5 a1 a2 a3 a4 a5).toArray e) :: (kdA, oD) :: Z) u (L + 1 + 1 + 1 + 1 + 1 + 1 + 1 + 1) (mBase2 fa many tn kdA m) (i + 1)) { s with heap := h, toks := tk } { s with heap := h', toks := tk' } := by
      intro m' x0' x1' t0' t1' nn' oS9 vk9 h' tk' F' hm' N' hb9 dS9
      refine ⟨h', tk', m', _, rfl, F', N', ?_, x0', x1', t0', t1', nn', oS9, vk9, m', g2_map hm', rfl, hb9, dS9⟩
      exact ne_cons (a := (u, _)) hI1 (ne_cons (a := (L + 1 + 1 + 1 + 1 + 1 + 1 + 1 + 1, oS9)) hI2 hI3)
    have d3 : ∀ (kd : Str) (t : Tok), v = Value.str kd t → Kind3 kd → wpAny (model PySem.Challenge.rw_ok0141_01.row.prog w) (lawA L fA ccd) (assign (.Name ("kind" : Str) px) (lawEnv L fA ccd) v) (fun _ s₃ => wpAny (model PySem.Challenge.rw_ok0141_01.row.prog w) (lawA L fA ccd) (execs (forBody (lawAt 12)) (lawEnv L fA ccd)) (TPost h₀ L I oI (G2 ((l, listOf (vs5 a1 a2 a3 a4 a5).toArray e) :: (kdA, oD) :: Z) u (L + 1 + 1 + 1 + 1 + 1 + 1 + 1 + 1) (mBase2 fa many tn kdA m) (i + 1)) Q { s with heap := h, toks := tk }) (lawE w L fA ccd E₁) s₃) (lawE w L fA ccd E₁) { s with heap := h, toks := tk } := by
      rintro kd t rfl hkd
      exact turn2a (u₀ := m) B X T F1 N2 hb' (Ne.symm hI1) (Ne.symm hI2) n3 hI3 yU yC (zt _ cU) dU (zt _ cM) dM (zt _ cB) dB dS' hkd hKD (by simp) (zt _ hfa) (hL.mono zt) okg hgm hm0 hm4 hS9 hmd fin
    have d2 : ∀ (kd : Str) (t : Tok), v = Value.str kd t → Kind2 kd → wpAny (model PySem.Challenge.rw_ok0141_01.row.prog w) (lawA L fA ccd) (assign (.Name ("kind" : Str) px) (lawEnv L fA ccd) v) (fun _ s₃ => wpAny (model PySem.Challenge.rw_ok0141_01.row.prog w) (lawA L fA ccd) (execs (forBody (lawAt 12)) (lawEnv L fA ccd)) (TPost h₀ L I oI (G2 ((l, listOf (vs5 a1 a2 a3 a4 a5).toArray e) :: (kdA, oD) :: Z) u (L + 1 + 1 + 1 + 1 + 1 + 1 + 1 + 1) (mBase2 fa many tn kdA m) (i + 1)) Q { s with heap := h, toks := tk }) (lawE w L fA ccd E₁) s₃) (lawE w L fA ccd E₁) { s with heap := h, toks := tk } := by
      rintro kd t rfl hkd
      exact turn2b (u₀ := m) B X T F1 N2 hb' (Ne.symm hI1) (Ne.symm hI2) n3 hI3 yU yC (zt _ cU) dU (zt _ cM) dM (zt _ cB) dB dS' hkd hKD (by simp) (zt _ hfa) (hL.mono zt) okg hgm hm0 hm4 hS9 hmd fin
    match i, hv with
    | 0, hv => exact d3 _ _ (by simpa using hv.symm) (.inl rfl)
    | 1, hv => exact d3 _ _ (by simpa using hv.symm) (.inr (.inl rfl))
    | 2, hv => exact d3 _ _ (by simpa using hv.symm) (.inr (.inr rfl))
    | 3, hv => exact d2 _ _ (by simpa using hv.symm) (.inl rfl)
    | 4, hv => exact d2 _ _ (by simpa using hv.symm) (.inr rfl)
    | n + 5, hv => simp at hv
  · rintro m₁ nx h tk ⟨y0, y1, s0, s1, mm, oS', vk', uu, rfl, rfl, hb', dS'⟩ F1 N2
    exact ret uu h tk F1 (fun p hp => N2 p (by simp [hp]))
end
end
section
section
variable {w : World} {p : Program} {loose : List Str} {mean : ExcName → Option Value} {mg mb : Str → Option Value} {h₀ : Heap} {L fA : Addr} {ccd : Value} {s : Shared} {E₁ : Value → Shared → Prop} {Post : Flow → Shared → Prop}
theorem kwC59_1 : True := by
  w_top off
  k_with_none
  (k_with "andf" => (first | assumption | exact And.left (by assumption) | exact And.left (And.right (by assumption)) | exact And.left (And.right (And.right (by assumption))) | exact And.left (And.right (And.right (And.right (by assumption)))) | exact And.left (And.right (And.right (And.right (And.right (by assumption))))) | exact And.left (And.right (And.right (And.right (And.right (And.right (by assumption)))))) | exact And.left (And.right (And.right (And.right (And.right (And.right (And.right (by assumption))))))) | exact And.left (And.right (And.right (And.right (And.right (And.right (And.right (And.right (by assumption)))))))) | exact And.left (And.right (And.right (And.right (And.right (And.right (And.right (And.right (And.right (by assumption))))))))) | exact And.left (And.right (And.right (And.right (And.right (And.right (And.right (And.right (And.right (And.right (by assumption)))))))))) | exact And.left (And.right (And.right (And.right (And.right (And.right (And.right (And.right (And.right (And.right (And.right (by assumption))))))))))) | exact And.left (And.right (And.right (And.right (And.right (And.right (And.right (And.right (And.right (And.right (And.right (And.right (by assumption)))))))))))) | exact And.left (And.right (And.right (And.right (And.right (And.right (And.right (And.right (And.right (And.right (And.right (And.right (And.right (by assumption))))))))))))) | exact And.left (And.right (And.right (And.right (And.right (And.right (And.right (And.right (And.right (And.right (And.right (And.right (And.right (And.right (by assumption))))))))))))))))
  (k_with "k_ne" => ((refine neN ?_; (try dsimp only); first | assumption | exact fun kwe9 => absurd kwe9.symm (by assumption) | exact ne_up1 | exact up_ne1 | exact ne_up2 | exact up_ne2 | exact ne_up3 | exact up_ne3 | exact ne_up4 | exact up_ne4 | exact ne_up5 | exact up_ne5 | exact ne_up6 | exact up_ne6 | exact ne_up7 | exact up_ne7 | exact Nat.ne_of_gt (by k_extra "andf") | exact Nat.ne_of_lt (by k_extra "andf") | omega)))
  (k_with "ktr_rel" => (first | exact List.mem_cons_self | ktr_member | (refine List.mem_cons_of_mem _ ?_; ktr_rel) | (refine List.mem_append.mpr (Or.inl ?_); ktr_rel) | (refine List.mem_append.mpr (Or.inr ?_); ktr_rel)))
  (k_with "size_fits" => (((simp only [List.size_toArray, PySem.sizeLine_eq]); omega)))
  (k_with "k_all" => (first | assumption | (refine List.forall_mem_append.mpr ⟨(by k_all), (by k_all)⟩) | (intro kwp9 kwhp9; have kwh9 := (by assumption : ∀ p ∈ _, @LT.lt Nat _ p.1 _) kwp9 kwhp9; refine neN ?_; (try dsimp only at kwh9 ⊢); omega)))
  (k_with "compareOp NotEq ref ref" => ((refine stop_in ?_)))
  (k_with "compareOp Eq ref ref" => ((refine stop_in ?_)))
  (k_with "pyIter ref" => (((with_reducible show wpAny _ _ (pyIter (Value.ref _)) (fun it s₂ => TurnsAt _ _ _ _ _ _ _ _ _ it s₂) _ _); refine stop_in ?_)))
  (k_with "exec For Name Call cons nil" => (((rename Fr _ _ _ _ => kwlF); refine' For_turns kwlF ?_; k_whole)))
  (k_with "exec For Name List cons nil" => (((rename Fr _ _ _ _ => kwlF); refine' For_turns kwlF ?_; k_whole)))
  (k_with "eval ListComp" => (((with_reducible show wpAny _ _ (eval (Expr.ListComp _ [⟨_, _, _, _⟩] _ _) _) _ _ _); k_dflt (refine LCg.ListComp_U (F₀ := by k_asm) (by with_unfolding_all rfl) (by decide) (by rfl) (by decide) (by rfl) (stopQ ?_)))))
  (k_with "subscriptTail Name UnaryOp ref int" => ((refine stop_in ?_)))
  (k_with "call builtin:len" => (((with_reducible show wpAny _ _ (call (Value.builtin "len") [Value.ref _]) _ _ _); k_dflt (refine len_led (by k_asm) (by k_mem) (by assumption) (by omega) ?_; k_whole))))
  trivial
theorem rest_spec {u fa sp px sm ka : Addr} {oU oM oB oK oQ oS : Obj} {W : List (Addr × Obj)} {mdl : Str} {bits x0 x1 : Int} {tm tb tn t0 t1 : Tok} {vk vs : Option Value} {fv sv dv : List Value} {fe se ke de many nn : Nat} {S : List (Bool × Bool)} {g : LV} {u₀ : Str → Option Value}
  (B : Below callerA h₀ [] h₀) (X : (hd.heap_1 w.params).In h₀) (T : Top p loose mean mg mb h₀)
  (F : Fr h₀ L s.heap (fun z => if z = ("found" : Str) then some (.ref fa) else if z = ("steps" : Str) then some (.ref sp) else if z = ("picture" : Str) then some (.ref px) else if z = ("samples" : Str) then some (.ref sm) else if z = ("many" : Str) then some (.int (many : Int) tn) else u₀ z))
  (N : News h₀ L s.heap ((L + 1 + 1 + 1 + 1 + 1 + 1, oK) :: (u, urnO x0 x1 t0 t1 nn) :: (L + 1 + 1 + 1 + 1 + 1 + 1 + 1 + 1, oS) :: (L + 1, oU) :: (L + 1 + 1, oM) :: (L + 1 + 1 + 1, oB) :: (L + 1 + 1 + 1 + 1 + 1 + 1 + 1, oQ) :: W)) (hb : UrnB x0 x1)
  (hK : ∀ p ∈ W, @Ne Nat p.1 (L + 1 + 1 + 1 + 1 + 1 + 1)) (hU : ∀ p ∈ W, @Ne Nat p.1 u) (hC : ∀ p ∈ W, @Ne Nat p.1 (L + 1 + 1 + 1 + 1 + 1 + 1 + 1 + 1)) (hLu : @LT.lt Nat _ (L + 1 + 1 + 1 + 1 + 1 + 1 + 1 + 1) u)
  (dU : oU.data = .cell (some (.ref u))) (dM : oM.data = .cell (some (.str mdl tm))) (dB : oB.data = .cell (some (.int bits tb))) (dQ : oQ.data = .cell (some (.ref ka))) (dK : oK.data = .cell vk) (dS : oS.data = .cell vs)
  (hP : PicAt W px mdl bits g) (hsm : (sm, listOf dv.toArray de) ∈ W) (hD : DatAll W dv (g.2.2.map gD)) (hsp : (sp, listOf sv.toArray se) ∈ W) (hka : (ka, listOf sv.toArray ke) ∈ W) (hS : StepsAt W sv S)
  (hfa : (fa, listOf fv.toArray fe) ∈ W) (hL : LevelsAt W fv mdl bits (levels S g)) (hlast : fv[S.length]? = some (.ref px)) (okg : LvOk g) (hgm : g.2.2.length = many) (hm0 : 1 ≤ many) (hm4 : many ≤ 4) (hS9 : S.length < 4) (hmd : PyData.strOk mdl = true)
  (ret : ∀ (m' : Str → Option Value) (news' : List (Addr × Obj)) (h' : Heap) (tk' : Nat), Fr h₀ L h' m' → News h₀ L h' news' → Post (.ret (.bool true)) { s with heap := h', toks := tk' }) :
  wpAny (model PySem.Challenge.rw_ok0141_01.row.prog w) (lawA L fA ccd) (execs (lawFn.1.drop 8) (lawEnv L fA ccd)) Post (lawE w L fA ccd E₁) s := by
  have hfill : PySem.Challenge.rw_ok0141_01 = PySem.Challenge.rw_ok0141_01 ∧ hd.heap_1 = hd.heap_1 := by k_fill; exact ⟨rfl, rfl⟩
  clear hfill
  show wpAny _ (callerA.deeper (envOfC ("law" : Str) ⟨_, _, _, _, _⟩ L fA ccd)) (execs [_, _, _, _, _, _] (envOfC ("law" : Str) ⟨_, _, _, _, _⟩ L fA ccd)) _ _ _
  dsimp only
  have hll : fv.length = S.length + 1 := by rw [hL.len, levels_len]
  have hsl : sv.length = S.length := hS.len
  k_steps
  · exfalso
    omega
  refine stop_out ?_
  (rename News _ _ _ _ => N1)
  refine item_last N1 (by k_mem : (fa, PySem.W.listOf fv.toArray fe) ∈ _) hll hlast ?_
  k_steps
  refine stop_out ?_
  (rename News _ _ _ _ => N2)
  refine ne_same (d := .list (S.map stepD)) N2 (.list (by k_mem : (sp, PySem.W.listOf sv.toArray se) ∈ _) ((steps_dat hS).mono fun p hp => by simp [hp])) (.list (by k_mem : (ka, PySem.W.listOf sv.toArray ke) ∈ _) ((steps_dat hS).mono fun p hp => by simp [hp])) ok_steps (by ktr_units) ?_
  k_steps
  refine stop_out ?_
  (rename Fr _ _ _ _ => F3); (rename News _ _ _ _ => N3)
  refine range_T (n := S.length + 1) (G1 ((u, urnO x0 x1 t0 t1 nn) :: (L + 1 + 1 + 1 + 1 + 1 + 1 + 1 + 1, oS) :: (L + 1, oU) :: (L + 1 + 1, oM) :: (L + 1 + 1 + 1, oB) :: (L + 1 + 1 + 1 + 1 + 1 + 1 + 1, oQ) :: W) (L + 1 + 1 + 1 + 1 + 1 + 1) S g (mBase fa many tn (mRest fa sp px sm many tn u₀))) rfl (by assumption) (small_down (by omega)) (size_down _) F3 N3 ?_ ?_ ?_
  · refine ⟨sm, dv, de, oK, vk, _, _, g1_map rfl ?_, rfl, fun p hp => hp, ?_, dK, by simp [hsm], ?_⟩
    · intro z n1 n2
      show (if z = ("due" : Str) then _ else mRest fa sp px sm many tn u₀ z) = _
      rw [if_neg n1]
      exact mbase_eq z
    · intro p hp
      simp only [List.mem_cons] at hp
      rcases hp with rfl | rfl | rfl | rfl | rfl | rfl | hp
      · show @Ne Nat _ _; k_ne
      · show @Ne Nat _ _; k_ne
      · show @Ne Nat _ _; k_ne
      · show @Ne Nat _ _; k_ne
      · show @Ne Nat _ _; k_ne
      · show @Ne Nat _ _; k_ne
      · exact hK p hp
    · rw [Nat.sub_zero, levels_last]
      exact hD.mono fun p hp => by simp [hp]
  · rintro i t m₁ nx h tk I oI hi ⟨da, dv1, de1, oK1, vk1, Y, uu, rfl, rfl, hZ, hYK, dK1, hda, hDa⟩ hI F4 N4
    have zU := fun p hp => hZ p (List.mem_cons_of_mem _ (List.mem_cons_of_mem _ (List.mem_cons_of_mem _ (List.mem_cons_of_mem _ (List.mem_cons_of_mem _ (List.mem_cons_of_mem _ hp))))))
    have ek : ((S.length : Int) + (i : Int) * (-1)) = ((S.length - i : Nat) : Int) := by omega
    rw [ek]
    refine turn1 (u₀ := mRest fa sp px sm many tn u₀) B X T F4 N4 (Ne.symm (hI _ List.mem_cons_self)) (fun p hp => hI p (List.mem_cons_of_mem _ hp)) hYK (hZ (L + 1 + 1, oM) (by simp)) dM (hZ (L + 1 + 1 + 1, oB) (by simp)) dB (hZ (L + 1 + 1 + 1 + 1 + 1 + 1 + 1, oQ) (by simp)) dQ dK1 (zU _ hfa) (hL.mono zU) (zU _ hka) (hS.mono zU) hda hDa okg hgm hm4 hS9 (by omega) hmd ?_
    intro m' da' dv' de' oK' vk' Y' h' tk' F5 e1 e2 N5 s1 s2 s3 d5 hda5 hD5
    refine ⟨h', tk', m', (L + 1 + 1 + 1 + 1 + 1 + 1, oK') :: Y', rfl, F5, N5, ?_, da', dv', de', oK', vk', Y', m', g1_map e1 e2, rfl, fun p hp => s1 p (hZ p hp), s3, d5, hda5, ?_⟩
    · intro p hp
      rcases List.mem_cons.mp hp with rfl | hp
      · exact hI (L + 1 + 1 + 1 + 1 + 1 + 1, oK1) List.mem_cons_self
      · exact s2 p hp
    · rw [show S.length - (i + 1) = S.length - i - 1 by omega]
      exact hD5
  · rintro m₁ nx h tk ⟨da, dv1, de1, oK1, vk1, Y, uu, rfl, rfl, hZ, hYK, dK1, hda, hDa⟩ F4 N4
    have N5 : News h₀ L h ((u, urnO x0 x1 t0 t1 nn) :: (L + 1 + 1 + 1 + 1 + 1 + 1 + 1 + 1, oS) :: (L + 1, oU) :: (L + 1 + 1, oM) :: (L + 1 + 1 + 1, oB) :: (L + 1 + 1 + 1 + 1 + 1 + 1 + 1, oQ) :: W) := fun p hp => N4 p (List.mem_cons_of_mem _ (hZ p hp))
    clear N4
    have sz1 := Heap.lt_size (N5 (u, urnO x0 x1 t0 t1 nn) (by simp)).1
    have sz2 := Heap.lt_size (N5 (L + 1 + 1 + 1 + 1 + 1 + 1 + 1 + 1, oS) (by simp)).1
    k_steps
    refine stop_out ?_
    (rename Fr _ _ _ _ => F6); (rename News _ _ _ _ => N6); (rename Obj.IsDictOf _ _ _ => hdd); (rename PyProof.V.FlatPairs _ _ _ => hff)
    have zW : ∀ p ∈ W, p ∈ (L + 1, oU) :: (L + 1 + 1, oM) :: (L + 1 + 1 + 1, oB) :: (L + 1 + 1 + 1 + 1 + 1 + 1 + 1, oQ) :: W := fun p hp => by simp [hp]
    have kd : KindsAt w _ _ := ⟨by assumption, _, hdd, hff⟩
    refine loop2 (Z := (L + 1, oU) :: (L + 1 + 1, oM) :: (L + 1 + 1 + 1, oB) :: (L + 1 + 1 + 1 + 1 + 1 + 1 + 1, oQ) :: W) B X T F6 rfl rfl rfl N6 hb ?n3 ?hU ?hC ?l1 ?l2 (by simp) dU (by simp) dM (by simp) dB dS kd (zW _ hfa) (hL.mono zW) okg hgm hm0 hm4 hS9 hmd ?_
    · show @Ne Nat _ _; k_ne
    · refine ne_cons ?_ (ne_cons ?_ (ne_cons ?_ (ne_cons ?_ hU))) <;> (show @Ne Nat _ _; k_ne)
    · refine ne_cons ?_ (ne_cons ?_ (ne_cons ?_ (ne_cons ?_ hC))) <;> (show @Ne Nat _ _; k_ne)
    · exact ⟨by show @Ne Nat _ _; k_ne, by show @Ne Nat _ _; k_ne⟩
    · exact ⟨Nat.ne_of_gt sz1, Nat.ne_of_gt sz2⟩
    intro uu2 h7 tk7 F7 N7
    refine hP.elim ?_
    clear hP
    intro dxp ph1 pt1 ptm ph2 pt2 ptb ph3 pt3 pl pn pvs pe pm1 pm2 pm3 hPl
    have szp : pvs.toArray.size = g.2.2.length := by rw [List.size_toArray, hPl.len]
    have hdd9 : DatIn W (.ref sm) (.list (g.2.2.map gD)) := .list hsm hD
    clear F6 N6
    k_steps
    refine stop_out ?_
    (rename News _ _ _ _ => N8)
    refine LCg.CompSrc.ledger rfl (by assumption) N8 (by k_mem : (pl, PySem.W.listOf pvs.toArray pe) ∈ _) (by rw [szp, sizeLine_eq]; omega) ?_
    intro g1
    rw [szp]
    refine comp_go (n := g.2.2.length) [] [] (fun M => M = []) (fun j tl v => DatIn W v (gD (g.2.2.getD j []))) (fun M h => by rw [h]; rfl) (by simp) (fun _ _ _ _ _ r => r) ?_ ?_ ?_ rfl
    · rintro M tl9 rfl
      exact .inr ⟨_, List.mem_append_right _ (List.mem_append_left _ (by k_mem : (pl, PySem.W.listOf pvs.toArray pe) ∈ _)), rfl, _, rfl⟩
    · rintro j v3 I3 oI3 C3 oC3 D3 ys m3' h6 tk6 E6 M Y6 hj hl3 hw3 rfl hYa hZY off hne3 hC3 hx3 F6 N7
      obtain ⟨pk, rfl, hpE⟩ := hPl.ok j v3 (by simpa using hw3)
      refine hpE.elim ?_
      clear hpE
      intro dx p1 w1 p2 w2 p3 w3 pn tw th vr q1 q2 q3 okr
      have z1 := hZY _ (by k_mem : (pk, instObj 94 dx) ∈ _)
      have z2 := hZY _ (by k_mem : (dx, dictOf [ent p1 "width" w1 (.int (g.1 : Int) tw), ent p2 "height" w2 (.int (g.2.1 : Int) th), ent p3 "rows" w3 vr] pn) ∈ _)
      k_steps
      exact cend_nil [] (by assumption) (by assumption) rfl q3
    · rintro ys3 M3 tl3 hl3 rfl hbh3 _ hR3
      intro D3 h3 tk3 F3 N3 off3
      simp only [List.nil_append, List.cons_append] at N3 off3
      k_steps
      refine stop_out ?_
      (rename News _ _ _ _ => N9)
      refine eq_same (d := .list (g.2.2.map gD)) N9 (.list (by k_mem) ((dats_at hl3 hR3).mono fun p hp => by simp [hp])) (hdd9.mono fun p hp => by simp [hp]) ok_grids (by ktr_units) ?_
      k_steps
      exact ret _ _ _ _ (by assumption) N9
end
end
section
section
variable {w : World} {p : Program} {loose : List Str} {mean : ExcName → Option Value} {mg mb : Str → Option Value} {dp un : Nat} {gd : Option (List Code)} {cn : Str} {cs : Scope} {a : Addr} {ccd : Value} {cl : List (Str × Addr)} {outer : List Env} {A₀ : Around} {base h₀ : Heap} {L : Addr} {m : Str → Option Value} {s : Shared} {Q E : Value → Shared → Prop}
theorem kwC60_1 : True := by
  w_top off
  k_with_none
  (k_with "andf" => (first | assumption | exact And.left (by assumption) | exact And.left (And.right (by assumption)) | exact And.left (And.right (And.right (by assumption))) | exact And.left (And.right (And.right (And.right (by assumption)))) | exact And.left (And.right (And.right (And.right (And.right (by assumption))))) | exact And.left (And.right (And.right (And.right (And.right (And.right (by assumption)))))) | exact And.left (And.right (And.right (And.right (And.right (And.right (And.right (by assumption))))))) | exact And.left (And.right (And.right (And.right (And.right (And.right (And.right (And.right (by assumption)))))))) | exact And.left (And.right (And.right (And.right (And.right (And.right (And.right (And.right (And.right (by assumption))))))))) | exact And.left (And.right (And.right (And.right (And.right (And.right (And.right (And.right (And.right (And.right (by assumption)))))))))) | exact And.left (And.right (And.right (And.right (And.right (And.right (And.right (And.right (And.right (And.right (And.right (by assumption))))))))))) | exact And.left (And.right (And.right (And.right (And.right (And.right (And.right (And.right (And.right (And.right (And.right (And.right (by assumption)))))))))))) | exact And.left (And.right (And.right (And.right (And.right (And.right (And.right (And.right (And.right (And.right (And.right (And.right (And.right (by assumption))))))))))))) | exact And.left (And.right (And.right (And.right (And.right (And.right (And.right (And.right (And.right (And.right (And.right (And.right (And.right (And.right (by assumption))))))))))))))))
  (k_with "k_ne" => ((refine neN ?_; (try dsimp only); first | assumption | exact fun kwe9 => absurd kwe9.symm (by assumption) | exact ne_up1 | exact up_ne1 | exact ne_up2 | exact up_ne2 | exact ne_up3 | exact up_ne3 | exact ne_up4 | exact up_ne4 | exact ne_up5 | exact up_ne5 | exact ne_up6 | exact up_ne6 | exact ne_up7 | exact up_ne7 | exact Nat.ne_of_gt (by k_extra "andf") | exact Nat.ne_of_lt (by k_extra "andf") | omega)))
  (k_with "ktr_rel" => (first | exact List.mem_cons_self | ktr_member | (refine List.mem_cons_of_mem _ ?_; ktr_rel) | (refine List.mem_append.mpr (Or.inl ?_); ktr_rel) | (refine List.mem_append.mpr (Or.inr ?_); ktr_rel)))
  trivial
/-- levels_of, upon the law's own ledger -/
theorem levels_law {ka sp u px pd pl : Addr} {oka ou : Obj} {sn n : Nat} {sv ys : List Value} {S : List (Bool × Bool)} {mdl : Str} {bits h1 h2 h3 : Int} {t1 t2 t3 tm tb : Tok} {wd hg : Nat} {gs : List (List (List Int))} {Z tlB tlC : List (Addr × Obj)}
  (B : Below A₀ base outer h₀) (F : Fr h₀ L s.heap m) (X : (hd.heap_1 w.params).In h₀)
  (N : News h₀ L s.heap ((ka, oka) :: (sp, listOf sv.toArray sn) :: (u, ou) :: (px, instObj 132 pd) :: (pd, dictOf [ent h1 "model" t1 (.str mdl tm), ent h2 "precision" t2 (.int bits tb), ent h3 "planes" t3 (.ref pl)] n) :: (pl, LCg.lst ys) :: Z)) (T : Top p loose mean mg mb h₀) (hk : cs.kind = .function)
  (hPl : PlanesAt tlB ys wd hg gs) (hB : ∀ p ∈ tlB, p ∈ Z) (hS : StepsAt tlC sv S) (hC : ∀ p ∈ tlC, p ∈ Z) (ok : LvOk (wd, hg, gs)) (hS3 : S.length < 100) (hdp : dp + 12 < recursionLimit) (hun : un + 100 < cLine)
  (ret : ∀ fa fv e tl h' tk', Fr h₀ L h' m → News h₀ L h' ((ka, oka) :: (sp, listOf sv.toArray sn) :: (u, ou) :: (px, instObj 132 pd) :: (pd, dictOf [ent h1 "model" t1 (.str mdl tm), ent h2 "precision" t2 (.int bits tb), ent h3 "planes" t3 (.ref pl)] n) :: (pl, LCg.lst ys) :: (Z ++ tl)) →
    Behind ((ka, oka) :: (sp, listOf sv.toArray sn) :: (u, ou) :: (px, instObj 132 pd) :: (pd, dictOf [ent h1 "model" t1 (.str mdl tm), ent h2 "precision" t2 (.int bits tb), ent h3 "planes" t3 (.ref pl)] n) :: (pl, LCg.lst ys) :: Z) tl → (fa, listOf fv.toArray e) ∈ tl →
    LevelsAt ((px, instObj 132 pd) :: (pd, dictOf [ent h1 "model" t1 (.str mdl tm), ent h2 "precision" t2 (.int bits tb), ent h3 "planes" t3 (.ref pl)] n) :: (pl, LCg.lst ys) :: (tlB ++ tl)) fv mdl bits (levels S (wd, hg, gs)) → fv[S.length]? = some (.ref px) → Q (.ref fa) { s with heap := h', toks := tk' }) :
  wpAny (model PySem.Challenge.rw_ok0141_01.row.prog w) (ktrTop dp un gd cn cs L a ccd cl outer) (call (.ref 270) [.ref px, .ref sp]) Q E s := by
  refine levels_spec (Zp := (px, instObj 132 pd) :: (pd, dictOf [ent h1 "model" t1 (.str mdl tm), ent h2 "precision" t2 (.int bits tb), ent h3 "planes" t3 (.ref pl)] n) :: (pl, LCg.lst ys) :: tlB) (g := (wd, hg, gs)) (mdl := mdl) (bits := bits) B F X N T hk ?_ ?_ (hS.mono fun p hp => List.mem_cons_of_mem _ (List.mem_cons_of_mem _ (List.mem_cons_of_mem _ (List.mem_cons_of_mem _ (List.mem_cons_of_mem _ (List.mem_cons_of_mem _ (hC p hp))))))) (List.mem_cons_of_mem _ List.mem_cons_self) ok hS3 hdp hun ?_
  · exact ⟨_, _, _, _, _, _, _, _, _, _, _, _, _, List.mem_cons_self, List.mem_cons_of_mem _ List.mem_cons_self, List.mem_cons_of_mem _ (List.mem_cons_of_mem _ List.mem_cons_self), hPl.mono fun p hp => by simp [hp]⟩
  · intro p hp
    simp only [List.mem_cons] at hp ⊢
    rcases hp with h | h | h | h
    · simp [h]
    · simp [h]
    · simp [h]
    · simp [hB p h]
  · intro fa fv e tl h' tk' F' N' B' m' L' x'
    exact ret fa fv e tl h' tk' F' (by simpa using N') B' m' (by simpa using L') x'
end
section
variable {w : World} {p : Program} {loose : List Str} {mean : ExcName → Option Value} {mg mb : Str → Option Value} {h₀ : Heap} {L fA : Addr} {ccd : Value} {s : Shared} {E₁ : Value → Shared → Prop} {Post : Flow → Shared → Prop} {m : Str → Option Value}
theorem mrest_eq {fa sp px sm : Addr} {many : Nat} {tn : Tok} {m : Str → Option Value} (h1 : m ("found" : Str) = some (.ref fa)) (h2 : m ("steps" : Str) = some (.ref sp)) (h3 : m ("picture" : Str) = some (.ref px)) (h4 : m ("samples" : Str) = some (.ref sm)) (h5 : m ("many" : Str) = some (.int (many : Int) tn)) : m = mRest fa sp px sm many tn m := by
  funext z
  by_cases z1 : z = ("found" : Str)
  · rw [mRest, if_pos z1, z1, h1]
  · by_cases z2 : z = ("steps" : Str)
    · rw [mRest, if_neg z1, if_pos z2, z2, h2]
    · by_cases z3 : z = ("picture" : Str)
      · rw [mRest, if_neg z1, if_neg z2, if_pos z3, z3, h3]
      · by_cases z4 : z = ("samples" : Str)
        · rw [mRest, if_neg z1, if_neg z2, if_neg z3, if_pos z4, z4, h4]
        · by_cases z5 : z = ("many" : Str)
          · rw [mRest, if_neg z1, if_neg z2, if_neg z3, if_neg z4, if_pos z5, z5, h5]
          · rw [mRest, if_neg z1, if_neg z2, if_neg z3, if_neg z4, if_neg z5]
def Apart (L u : Addr) (b : Addr) : Prop := @Ne Nat b u ∧ @Ne Nat b (L + 1 + 1 + 1 + 1 + 1 + 1) ∧ @Ne Nat b (L + 1 + 1 + 1 + 1 + 1 + 1 + 1 + 1)
/-- the rest of the law, upon the ledger as its first part leaves it -/
theorem law_glue {T9 ka sp u px pd pl sm fa : Addr} {oT oU oM oB oK oQ oS o4 o5 : Obj} {ke n en fe nn many wd hg : Nat} {sv ys vs fv : List Value} {S : List (Bool × Bool)} {mdl : Str} {bits h1 h2 h3 x0 x1 : Int} {t1 t2 t3 tm tb tm2 tb2 tn t0 t9 : Tok} {gs : List (List (List Int))} {tlA tlB tlC tlD : List (Addr × Obj)} {vk vc : Option Value}
  (B : Below callerA h₀ [] h₀) (X : (hd.heap_1 w.params).In h₀) (T : Top p loose mean mg mb h₀) (F : Fr h₀ L s.heap m)
  (N : News h₀ L s.heap ((T9, oT) :: (ka, listOf sv.toArray ke) :: (sp, LCg.lst sv) :: (u, urnO x0 x1 t0 t9 nn) :: (px, instObj 132 pd) :: (pd, dictOf [ent h1 "model" t1 (.str mdl tm), ent h2 "precision" t2 (.int bits tb), ent h3 "planes" t3 (.ref pl)] n) :: (pl, LCg.lst ys) :: (sm, listOf vs.toArray en) ::
    (L + 1 + 1 + 1 + 1 + 1 + 1 + 1 + 1, oS) :: (L + 1 + 1 + 1 + 1 + 1 + 1 + 1, oQ) :: (L + 1 + 1 + 1 + 1 + 1 + 1, oK) :: (L + 1 + 1 + 1 + 1 + 1, o5) :: (L + 1 + 1 + 1 + 1, o4) :: (L + 1 + 1 + 1, oB) :: (L + 1 + 1, oM) :: (L + 1, oU) :: (tlA ++ tlB ++ tlC ++ tlD)))
  (m1 : m ("found" : Str) = some (.ref fa)) (m2 : m ("steps" : Str) = some (.ref sp)) (m3 : m ("picture" : Str) = some (.ref px)) (m4 : m ("samples" : Str) = some (.ref sm)) (m5 : m ("many" : Str) = some (.int (many : Int) tn))
  (hb : UrnB x0 x1) (a1 : Apart L u ka) (a2 : Apart L u sp) (a3 : Apart L u px) (a4 : Apart L u pd) (a5 : Apart L u pl) (a6 : Apart L u sm) (aA : ∀ p ∈ tlA, Apart L u p.1) (aB : ∀ p ∈ tlB, Apart L u p.1) (aC : ∀ p ∈ tlC, Apart L u p.1) (aD : ∀ p ∈ tlD, Apart L u p.1) (hLu : @LT.lt Nat _ (L + 1 + 1 + 1 + 1 + 1 + 1 + 1 + 1) u)
  (dU : oU.data = .cell (some (.ref u))) (dM : oM.data = .cell (some (.str mdl tm2))) (dB : oB.data = .cell (some (.int bits tb2))) (dQ : oQ.data = .cell (some (.ref ka))) (dK : oK.data = .cell vk) (dS : oS.data = .cell vc)
  (hPl : PlanesAt tlB ys wd hg gs) (hgs : ∀ (j : Nat) (v : Value), vs[j]? = some v → Grid wd hg (gs.getD j []) ∧ DatIn tlA v (gD (gs.getD j []))) (hvl : vs.length = gs.length) (hS : StepsAt tlC sv S) (hfa : (fa, listOf fv.toArray fe) ∈ tlD)
  (hL : LevelsAt ((px, instObj 132 pd) :: (pd, dictOf [ent h1 "model" t1 (.str mdl tm), ent h2 "precision" t2 (.int bits tb), ent h3 "planes" t3 (.ref pl)] n) :: (pl, LCg.lst ys) :: (tlB ++ tlD)) fv mdl bits (levels S (wd, hg, gs))) (hlast : fv[S.length]? = some (.ref px)) (okg : LvOk (wd, hg, gs)) (hgm : gs.length = many) (hm0 : 1 ≤ many) (hm4 : many ≤ 4) (hS9 : S.length < 4) (hmd : PyData.strOk mdl = true)
  (ret : ∀ (m' : Str → Option Value) (news' : List (Addr × Obj)) (h' : Heap) (tk' : Nat), Fr h₀ L h' m' → News h₀ L h' news' → Post (.ret (.bool true)) { s with heap := h', toks := tk' }) :
  wpAny (model PySem.Challenge.rw_ok0141_01.row.prog w) (lawA L fA ccd) (execs (lawFn.1.drop 8) (lawEnv L fA ccd)) Post (lawE w L fA ccd E₁) s := by
  obtain ⟨W, hW⟩ : ∃ W : List (Addr × Obj), W = (ka, listOf sv.toArray ke) :: (sp, LCg.lst sv) :: (px, instObj 132 pd) :: (pd, dictOf [ent h1 "model" t1 (.str mdl tm), ent h2 "precision" t2 (.int bits tb), ent h3 "planes" t3 (.ref pl)] n) :: (pl, LCg.lst ys) :: (sm, listOf vs.toArray en) :: (tlA ++ tlB ++ tlC ++ tlD) := ⟨_, rfl⟩
  have hap : ∀ p ∈ W, Apart L u p.1 := by
    intro p hp
    rw [hW] at hp
    simp only [List.mem_cons, List.mem_append] at hp
    rcases hp with rfl | rfl | rfl | rfl | rfl | rfl | ((h | h) | h) | h
    · exact a1
    · exact a2
    · exact a3
    · exact a4
    · exact a5
    · exact a6
    · exact aA p h
    · exact aB p h
    · exact aC p h
    · exact aD p h
  have wA : ∀ p ∈ tlA, p ∈ W := fun p hp => by rw [hW]; simp [hp]
  have wB : ∀ p ∈ tlB, p ∈ W := fun p hp => by rw [hW]; simp [hp]
  have wC : ∀ p ∈ tlC, p ∈ W := fun p hp => by rw [hW]; simp [hp]
  have wD : ∀ p ∈ tlD, p ∈ W := fun p hp => by rw [hW]; simp [hp]
  have N1 : News h₀ L s.heap ((L + 1 + 1 + 1 + 1 + 1 + 1, oK) :: (u, urnO x0 x1 t0 t9 nn) :: (L + 1 + 1 + 1 + 1 + 1 + 1 + 1 + 1, oS) :: (L + 1, oU) :: (L + 1 + 1, oM) :: (L + 1 + 1 + 1, oB) :: (L + 1 + 1 + 1 + 1 + 1 + 1 + 1, oQ) :: W) := fun p hp => N p (by
    rw [hW] at hp
    simp only [List.mem_cons, List.mem_append] at hp ⊢
    rcases hp with h | h | h | h | h | h | h | h | h | h | h | h | h | ((h | h) | h) | h <;> simp [h])
  rw [mrest_eq m1 m2 m3 m4 m5] at F
  have hP : PicAt W px mdl bits (wd, hg, gs) := ⟨pd, h1, t1, tm, h2, t2, tb, h3, t3, pl, n, ys, ys.length, by rw [hW]; simp, by rw [hW]; simp, by rw [hW]; simp, hPl.mono wB⟩
  have hD : DatAll W vs (gs.map gD) := dats_at (d := []) hvl fun j v hv => (hgs j v hv).2.mono wA
  refine rest_spec (px := px) (sp := sp) (g := (wd, hg, gs)) B X T F N1 hb (fun p hp => (hap p hp).2.1) (fun p hp => (hap p hp).1) (fun p hp => (hap p hp).2.2) hLu dU dM dB dQ dK dS hP (by rw [hW]; repeat (first | exact List.mem_cons_self | apply List.mem_cons_of_mem)) hD (se := sv.length) (by rw [hW]; repeat (first | exact List.mem_cons_self | apply List.mem_cons_of_mem)) (by rw [hW]; repeat (first | exact List.mem_cons_self | apply List.mem_cons_of_mem)) (hS.mono wC) (wD _ hfa) (hL.mono fun p hp => ?_) hlast okg hgm hm0 hm4 hS9 hmd ret
  simp only [List.mem_cons, List.mem_append] at hp
  rw [hW]
  rcases hp with h | h | h | h | h <;> simp [h]
end
end
section



section
theorem kwL2_1 : True := by
  w_top off
  k_with_none
  (k_with "andf" => (first | assumption | exact And.left (by assumption) | exact And.left (And.right (by assumption)) | exact And.left (And.right (And.right (by assumption))) | exact And.left (And.right (And.right (And.right (by assumption)))) | exact And.left (And.right (And.right (And.right (And.right (by assumption))))) | exact And.left (And.right (And.right (And.right (And.right (And.right (by assumption)))))) | exact And.left (And.right (And.right (And.right (And.right (And.right (And.right (by assumption))))))) | exact And.left (And.right (And.right (And.right (And.right (And.right (And.right (And.right (by assumption)))))))) | exact And.left (And.right (And.right (And.right (And.right (And.right (And.right (And.right (And.right (by assumption))))))))) | exact And.left (And.right (And.right (And.right (And.right (And.right (And.right (And.right (And.right (And.right (by assumption)))))))))) | exact And.left (And.right (And.right (And.right (And.right (And.right (And.right (And.right (And.right (And.right (And.right (by assumption))))))))))) | exact And.left (And.right (And.right (And.right (And.right (And.right (And.right (And.right (And.right (And.right (And.right (And.right (by assumption)))))))))))) | exact And.left (And.right (And.right (And.right (And.right (And.right (And.right (And.right (And.right (And.right (And.right (And.right (And.right (by assumption))))))))))))) | exact And.left (And.right (And.right (And.right (And.right (And.right (And.right (And.right (And.right (And.right (And.right (And.right (And.right (And.right (by assumption))))))))))))))))
  (k_with "k_ne" => ((refine neN ?_; (try dsimp only); first | assumption | exact fun kwe9 => absurd kwe9.symm (by assumption) | exact ne_up1 | exact up_ne1 | exact ne_up2 | exact up_ne2 | exact ne_up3 | exact up_ne3 | exact ne_up4 | exact up_ne4 | exact ne_up5 | exact up_ne5 | exact ne_up6 | exact up_ne6 | exact ne_up7 | exact up_ne7 | exact Nat.ne_of_gt (by k_extra "andf") | exact Nat.ne_of_lt (by k_extra "andf") | omega)))
  (k_with "ktr_rel" => (first | exact List.mem_cons_self | ktr_member | (refine List.mem_cons_of_mem _ ?_; ktr_rel) | (refine List.mem_append.mpr (Or.inl ?_); ktr_rel) | (refine List.mem_append.mpr (Or.inr ?_); ktr_rel)))
  (k_with "call ref" => (((with_reducible show wpAny _ _ (call (Value.ref 270) _) _ _ _); refine stop_in ?_)))
  (k_with "call type:list" => (((with_reducible show wpAny _ _ (call (Value.type "list") [Value.ref _]) _ _ _); k_dflt (refine kup_listOf (by k_asm) (by k_asm) (by k_mem) (by rfl) ?_ (by assumption)); intro kwD kwc kwh kwF kwN kwl1; (try k_lt kwl1); (try dsimp only); (try k_sweep))))
  (k_with "call ref" => (((with_reducible show wpAny _ _ (call (Value.ref 300) _) _ _ _); k_dflt (refine urn_spec (by k_asm) (by k_asm) (by k_asm) (by k_asm) (by k_asm) (by first | rfl | assumption) (by assumption) (by assumption) (by first | assumption | omega) (by ktr_room) (by ktr_units) ?_); intro kwu9 kwx9 kwy9 kwt9 kws9 kwn9 kwh kwtk kwhx9 kwhy9 kwhz9 kwF kwN kwl1; (try k_lt kwl1); (try dsimp only); (try k_sweep))))
  (k_with "call ref" => (((with_reducible show wpAny _ _ (call (Value.ref 307) _) _ _ _); k_dflt (refine lot3_spec (by k_asm) (by k_asm) (by k_asm) (by k_asm) (by k_asm) (by first | rfl | assumption) (by k_updF) (by assumption) (by assumption) (by assumption) (by first | decide | omega) (by first | decide | omega) (by ktr_room) (by ktr_units) ?_); intro kwd9 kwt9 kwx9 kwy9 kws9 kwu9 kwn9 kwh kwtk kwhd9 kwhe9 kwhx9 kwhy9 kwhz9 kwF kwN; (try dsimp only at kwN); (try dsimp only); (try k_sweep))))
  (k_with "k_all" => (first | assumption | (refine List.forall_mem_append.mpr ⟨(by k_all), (by k_all)⟩) | (intro kwp9 kwhp9; have kwh9 := (by assumption : ∀ p ∈ _, @LT.lt Nat _ p.1 _) kwp9 kwhp9; refine neN ?_; (try dsimp only at kwh9 ⊢); omega)))
  (k_with "subscriptTail" => (((with_reducible show wpAny _ _ (subscriptTail (Expr.List _ _) _ _ _) _ _ _); refine stop_in ?_)))
  (k_with "exec For Name Call cons nil" => (((rename Fr _ _ _ _ => kwlF); (with_unfolding_all refine For_invVF kwlF (by exact rfl) (by exact rfl) ?_; k_whole))))
  (k_with "pyIter ref" => (((with_reducible show wpAny _ _ (pyIter (Value.ref _)) (fun it s₂ => LoopAtV _ _ _ _ _ ("place" : Str) _ _ _ it s₂) _ _); refine stop_in ?_)))
  (k_with "eval ListComp" => (((with_reducible show wpAny _ _ (eval (Expr.ListComp _ [⟨_, Expr.Call _ _ _ _, _, _⟩] _ _) _) _ _ _); k_dflt (refine LCg.ListComp_U (F₀ := by k_asm) (by with_unfolding_all rfl) (by decide) (by rfl) (by decide) (by rfl) (stopQ ?_)))))
  (k_with "size_fits" => (((simp only [List.size_toArray, PySem.sizeLine_eq]); omega)))
  (k_with "dictfold_shaped2" => ((repeat' (first | exact Agree.ofT | (refine Agree.set (by decide) ?_) | refine Agree.nilc ?_ | (refine Agree.ofD (by decide) ?_)))))
  (k_with "eval ListComp" => (((with_reducible show wpAny _ _ (eval (Expr.ListComp _ [⟨_, Expr.Name _ _, _, _⟩] _ _) _) _ _ _); k_dflt (refine LCg.ListComp_U (F₀ := by k_asm) (by with_unfolding_all rfl) (by decide) (by rfl) (by decide) (by rfl) (stopQ ?_)))))
  (k_with "exec For Name Call cons nil" => (((with_reducible show wpAny _ _ (exec (Stmt.For (Expr.Name ("k" : Str) _) _ _ _ _) _) _ _ _); refine stop_in ?_)))
  (k_with "exec Assign cons ListComp" => ((refine stop_in ?_)))
  (k_with "execs cons" => (((with_reducible show wpAny _ _ (execs (Stmt.If _ _ _ _ :: Stmt.Assign _ _ _ :: Stmt.For _ _ _ _ _ :: _) _) _ _ _); refine stop_in ?_)))
  trivial
theorem law_try : PySem.Challenge.rw_ok0141_01.Holds :=
  hd (by
    k_go0
    k_steps
    refine stop_out ?_
    (rename News _ _ _ _ => N9)
    refine pick_tup (vs := [_, _, _, _, _]) N9 List.mem_cons_self ?_ ?_ (by simp) ?_ ?_
    · assumption
    · show _ < (5 : Int)
      assumption
    · simp only [List.forall_mem_cons]
      exact ⟨⟨_, _, 1, _, _, _, rfl, by k_mem, by decide, by decide, by decide +kernel⟩, ⟨_, _, 3, _, _, _, rfl, by k_mem, by decide, by decide, by decide +kernel⟩, ⟨_, _, 3, _, _, _, rfl, by k_mem, by decide, by decide, by decide +kernel⟩, ⟨_, _, 4, _, _, _, rfl, by k_mem, by decide, by decide, by decide +kernel⟩, ⟨_, _, 2, _, _, _, rfl, by k_mem, by decide, by decide, by decide +kernel⟩, fun _ h => nomatch h⟩
    intro T mdl many tm tn nn hT hmany hmd
    k_steps
    refine stop_out ?_
    (rename News _ _ _ _ => N8)
    refine pick_int (vs := [_, _]) (P := fun b => b = 8 ∨ b = 12) N8 List.mem_cons_self ?_ ?_ (by simp) ?_ ?_
    · assumption
    · show _ < (2 : Int)
      assumption
    · simp only [List.forall_mem_cons]
      exact ⟨⟨_, _, rfl, .inl rfl⟩, ⟨_, _, rfl, .inr rfl⟩, fun _ h => nomatch h⟩
    intro bits tb hbits
    have N10 := news_off 7 N8
    simp only [List.drop_succ_cons, List.drop_zero] at N10
    clear N8
    k_steps
    refine stop_out ?_
    (rename News _ _ _ _ => N12)
    have N11 := news_cut2 N12
    clear N12
    obtain ⟨wd, hwd, hwz⟩ := sz6 (by assumption) (by assumption)
    obtain ⟨hg, hhg, hhz⟩ := sz5 (by assumption) (by assumption)
    refine build_urn (n := many) (fun j tl v => ∃ g, Grid wd hg g ∧ DatIn tl v (gD g)) [] (fun _ _ _ _ k ⟨g, a, b⟩ => ⟨g, a, b.mono k⟩) rfl (by assumption) (small_nat (hmany.lt (by decide))) (size_nat _) (by assumption) N11 ⟨by assumption, by assumption, by assumption⟩ ?_ ?_ ?_
    · intro p hp
      simp only [List.mem_cons, List.not_mem_nil, or_false] at hp
      rcases hp with rfl | rfl | rfl | rfl | rfl | rfl | rfl | rfl <;> exact ⟨by (first | assumption | exact fun e => absurd e.symm (by assumption) | (show @Ne Nat _ _; k_ne)), by (first | assumption | exact fun e => absurd e.symm (by assumption) | (show @Ne Nat _ _; k_ne))⟩
    · intro i t vs e x0 x1 t0 t1 nn1 Y uu h tk hi hl hb hYr hYu hZY F1 N1
      have b0 := hb.1
      have b1 := hb.2.1
      have b2 := hb.2.2
      simp only [List.forall_mem_cons] at hZY
      refine ae9 hZY ?_
      clear hZY
      intro z1 z2 z3 z4 z5 z6 z7 z8 z9
      k_steps
      refine stop_out ?_
      (rename News _ _ _ _ => N13)
      have N14 := news_swap N13
      refine LCg.CompSrc.range rfl (by assumption) N14 (by assumption) (by rw [hhg]; exact small_nat (hhz.lt (by decide))) (by rw [hhg]; exact size_nat _) (by have := hhz.2; rw [sizeLine_eq]; omega) ?_
      intro g1
      refine comp_urn (n := hg) (fun j tl v => ∃ r : List Int, r.length = wd ∧ DatIn tl v (rowD r)) hb (ne_cons (by (first | assumption | exact fun e => absurd e.symm (by assumption) | (show @Ne Nat _ _; k_ne))) hYu) (fun _ _ _ _ k ⟨r, a, b⟩ => ⟨r, a, b.mono k⟩) (fun _ _ _ => trivial) ?_ ?_
      · rintro j v2 I oI C oC D ys m2 h2 tk2 E2 x0 x1 t0 t1 nn2 Y2 hj hl2 ⟨t2, rfl⟩ hb2 hYu2 hZY2 off2 hne2 hC2 hx2 F2 N2
        have hc := fun p hp => hZY2 p (List.mem_cons_of_mem _ hp)
        have w1 := hc _ z1
        have w2 := hc _ z2
        have w3 := hc _ z3
        have w4 := hc _ z4
        have w5 := hc _ z5
        have w6 := hc _ z6
        have w7 := hc _ z7
        have w8 := hc _ z8
        k_steps
        refine stop_out ?_
        (rename News _ _ _ _ => N15)
        have N16 := news_front3 N15
        refine LCg.CompSrc.range rfl (by assumption) N16 (by assumption) (by rw [hwd]; exact small_nat (hwz.lt (by decide))) (by rw [hwd]; exact size_nat _) (by have := hwz.2; rw [sizeLine_eq]; omega) ?_
        intro g2
        refine comp_urn (n := wd) (fun j tl v => ∃ i t, v = Value.int i t) hb2 (off_front off2 hYu2) (fun _ _ _ _ _ r => r) (fun _ _ _ => trivial) ?_ ?_
        · rintro j3 v3 I3 oI3 C3 oC3 D3 ys3 m3 h3 tk3 E3 x0 x1 t0 t1 nn3 Y3 hj3 hl3 ⟨t3, rfl⟩ hb3 hYu3 hZY3 off3 hne3 hC3 hx3 F3 N3
          have hc3 := fun p hp => hZY3 p (List.mem_cons_of_mem _ (List.mem_cons_of_mem _ (List.mem_cons_of_mem _ hp)))
          have q1 := hc3 _ w1
          have q2 := hc3 _ w2
          have q3 := hc3 _ w3
          have q4 := hc3 _ w4
          have q5 := hc3 _ w5
          have q6 := hc3 _ w6
          have q7 := hc3 _ w7
          have q8 := hc3 _ w8
          have b0 := hb3.1
          have b1 := hb3.2.1
          have b2 := hb3.2.2
          have o1 := off3.1
          have o2 := off3.2
          rcases hbits with rfl | rfl
          · k_steps
            exact cend_urn (by assumption) (by assumption) ⟨by assumption, by assumption, by assumption⟩ ⟨_, _, rfl⟩
          · k_steps
            exact cend_urn (by assumption) (by assumption) ⟨by assumption, by assumption, by assumption⟩ ⟨_, _, rfl⟩
        · rintro ys3 x0 x1 t0 t1 nn3 tl3 hl3 hb3 hbh3 ha3 hR3
          intro D3 h3 tk3 F3 N3 off3
          exact cend_urn_row F3 N3 off3 hbh3 ha3 hb3 (row_some hR3 hl3)
      · rintro ys x0 x1 t0 t1 nn2 tl2 hl2 hb2 hbh2 ha2 hR2
        intro D2 h2 tk2 F2 N2 off2
        have off4 := off2
        simp only [List.cons_append, LCg.Off1] at N2 off4
        repeat (have := off4.1; replace off4 := off4.2)
        have hq := off_app (tl := tl2) hYr hbh2 rfl
        have hsz : vs.length < 100 := by have := hmany.2; omega
        k_steps
        refine bend_urn (by assumption) (by assumption) off2 hbh2 ha2 hb2 ?_ (grid_some hR2 hl2 hwz.pos hhz.pos)
        dictfold_shaped2
    · intro vs e x0 x1 t0 t1 nn2 tl uu h tk hl hb F1 N1 o1 o2 o3 hR
      obtain ⟨gs, hgl, hgg, hgs⟩ := grids_some hR
      have hvl : gs.length = many := by rw [hgl, hl]
      have hsz : vs.length < 100 := by have := hmany.2; omega
      simp only [List.cons_append, List.nil_append] at N1
      show wpAny _ _ _ _ _ _
      k_steps
      refine stop_out ?_
      (rename News _ _ _ _ => N2)
      refine LCg.CompSrc.ledger rfl (by assumption) N2 List.mem_cons_self (by rw [List.size_toArray, sizeLine_eq]; omega) ?_
      intro g1
      have sz : vs.toArray.size = many := by rw [List.size_toArray, hl]
      rw [sz]
      refine comp_go (n := many) [] [] (fun M => M = []) (fun j tl v => ∃ p, v = .ref p ∧ PlaneAt tl p wd hg (gs.getD j [])) (fun M h => by rw [h]; rfl) (by simp) (fun _ _ _ _ k ⟨p, e, r⟩ => ⟨p, e, r.mono k⟩) ?_ ?_ ?_ rfl
      · rintro M tl9 rfl
        exact .inr ⟨_, List.mem_append_right _ (List.mem_append_left _ List.mem_cons_self), rfl, _, rfl⟩
      · rintro j v3 I oI C oC D ys m3 h6 tk6 E6 M Y hj hl3 hw3 rfl hYa hZY off hne hC hx3 F3 N3
        obtain ⟨hgj, hdj⟩ := hgs j v3 (by simpa using hw3)
        simp only [List.forall_mem_cons] at hZY
        refine ae11 hZY ?_
        clear hZY
        intro z0 zu z1 z2 z3 z4 z5 z6 z7 z8 zt
        obtain ⟨ar, us, ne, rfl, har, hrs⟩ := grid_open (hdj.mono zt)
        have hul : us.length = hg := by rw [hrs.length, List.length_map, hgj.len]
        k_steps
        refine stop_out ?_
        (rename News _ _ _ _ => N4)
        refine LCg.CompSrc.ledger rfl (by assumption) N4 (by k_mem) (by have := hhz.2; rw [List.size_toArray, sizeLine_eq]; omega) ?_
        intro g2
        have sz2 : us.toArray.size = hg := by rw [List.size_toArray, hul]
        rw [sz2]
        refine comp_go (n := hg) [] [] (fun M => M = []) (fun j2 tl v => DatIn tl v (rowD ((gs.getD j []).getD j2 []))) (fun M h => by rw [h]; rfl) (by simp) (fun _ _ _ _ k r => r.mono k) ?_ ?_ ?_ rfl
        · rintro M tl9 rfl
          exact .inr ⟨_, List.mem_append_right _ (List.mem_append_left _ (by k_mem)), rfl, _, rfl⟩
        · rintro j2 v4 I4 oI4 C4 oC4 D4 ys4 m4 h4 tk4 E4 M4 Y4 hj4 hl4 hw4 rfl hYa4 hZY4 off4 hne4 hC4 hx4 F4 N5
          obtain ⟨v5, hv5, hr5⟩ := row_at hrs (k := j2) (by rw [hgj.len]; exact hj4)
          obtain rfl : v5 = v4 := by
            have : us[j2]? = some v4 := by simpa using hw4
            rw [hv5] at this
            exact Option.some.inj this
          obtain ⟨br, ws, nw, rfl, hbr, hws⟩ := row_open hr5
          have hbr4 := hZY4 _ (List.mem_cons_of_mem _ (List.mem_cons_of_mem _ (List.mem_cons_of_mem _ hbr)))
          have hwl : ws.length = ((gs.getD j []).getD j2 []).length := hws.length
          k_steps
          (rename Fr _ _ _ _ => F6); (rename News _ _ _ _ => N6)
          refine kup_listOf (zs := ws) F6 N6 (by k_mem) rfl ?_ ?_
          · intro Dn cn9 hn9 Fn Nn ln
            exact cend_one Fn Nn ln (.list List.mem_cons_self (ints_datAll hws))
          · have := hgj.row _ (getD_mem (d := []) (show j2 < (gs.getD j []).length by rw [hgj.len]; exact hj4))
            have h9 := hwz.2
            show ws.length ≤ _
            rw [sizeLine_eq, hwl]
            omega
        · rintro ys3 M3 tl3 hl3 rfl hbh3 _ hR3
          intro D3 h3 tk3 F3 N3 off3
          k_steps
          refine cend_plane (by assumption) (by assumption) (by assumption) (by assumption) off3 hbh3 ⟨_, rfl, plane_mk List.mem_cons_self (List.mem_cons_of_mem _ List.mem_cons_self) hwd hhg ?_ hgj⟩
          exact (rows_made (by rw [hl3, hgj.len]) hR3).mono fun p hp => List.mem_cons_of_mem _ (List.mem_cons_of_mem _ hp)
      · rintro ys M3 tl3 hl3 rfl hbh3 _ hR3
        intro D3 h3 tk3 F3 N3 off3
        simp only [List.nil_append, List.cons_append] at N3 off3
        k_steps
        refine stop_out ?_
        have hu3 := List.forall_mem_append.mpr ⟨o2, fun p hp => hbh3 _ (List.mem_cons_of_mem _ List.mem_cons_self) p hp⟩
        k_dflt (refine LCg.Assign_ListComp_U (F₀ := by k_asm) (by rfl) (by with_unfolding_all rfl) (by with_unfolding_all rfl) (by decide) (by rfl) (by decide) (by rfl) (by rfl) (by rfl) (stopQ ?_))
        have b0 := hb.1
        have b1 := hb.2.1
        have b2 := hb.2.2
        have off5 := off3
        simp only [LCg.Off1] at off5
        repeat (have := off5.1; replace off5 := off5.2)
        k_steps
        refine stop_out ?_
        obtain ⟨ns, hns, hnz⟩ := nat4 (by assumption) (by assumption)
        (rename News _ _ _ _ => N20)
        have N21 := news_front4 N20
        refine LCg.CompSrc.range (n := ns) rfl (by assumption) N21 (by assumption) (by rw [hns]; exact small_nat (hnz.lt (by decide))) (by rw [hns]; exact size_nat _) (by have := hnz.2; rw [sizeLine_eq]; omega) ?_
        intro g3
        refine comp_urn (n := ns) (fun j tl v => ∃ p n, ∃ s : Bool × Bool, v = Value.ref p ∧ (p, ({ cls := .type "tuple", data := .seq #[.bool s.1, .bool s.2] n } : Obj)) ∈ tl) ⟨by assumption, by assumption, by assumption⟩ ?_ (fun _ _ _ _ k ⟨p, n, s, a, b⟩ => ⟨p, n, s, a, k _ b⟩) (fun _ _ _ => trivial) ?_ ?_
        · (repeat' (first | exact hu3 | refine ne_cons ?_ ?_)) <;> (first | assumption | exact fun e => absurd e.symm (by assumption) | (show @Ne Nat _ _; k_ne))
        · rintro j3 v3 I3 oI3 C3 oC3 D3 ys3 m3 h3 tk3 E3 x0 x1 t0 t1 nn3 Y3 hj3 hl3 ⟨t3, rfl⟩ hb3 hYu3 hZY3 off3 hne3 hC3 hx3 F3 N3
          simp only [List.forall_mem_cons] at hZY3
          refine ae13 hZY3 ?_
          clear hZY3
          intro q1 q2 q3 q4 q5 q6 q7 q8 q9 q10 q11 q12 q13
          have b0 := hb3.1
          have b1 := hb3.2.1
          have b2 := hb3.2.2
          have o1 := off3.1
          have o2 := off3.2
          k_steps
          exact cend_urn_one (by assumption) (by assumption) (by assumption) ⟨by assumption, by assumption, by assumption⟩ ⟨_, _, (_, _), rfl, List.mem_cons_self⟩
        · rintro ys5 x0 x1 t0 t1 nn5 tl5 hl5 hb5 hbh5 ha5 hR5
          intro D5 h5 tk5 F5 N5 off5
          obtain ⟨S, hS⟩ := steps_some hR5
          have hyl : ys5.toArray.toList.length ≤ sizeLine := by
            have := hnz.2
            show ys5.length ≤ _
            rw [sizeLine_eq]; omega
          simp only [List.cons_append] at N5
          show wpAny _ _ _ _ _ _
          k_steps
          refine stop_out ?_
          have okg : LvOk (wd, hg, gs) := ⟨hwz.lt (by decide), hhz.lt (by decide), by show 0 < gs.length; rw [hvl]; exact hmany.pos, by show gs.length < 1000; rw [hvl]; exact hmany.lt (by decide), hgg⟩
          have hS9 : S.length < 100 := by have := hnz.2; rw [← hS.len]; omega
          have hS4 : S.length < 4 := by have := hnz.2; rw [← hS.len]; omega
          (rename Fr _ _ _ _ => F39); (rename News _ _ _ _ => N39)
          refine levels_law (tlB := tl3) (tlC := tl5) (gs := gs) (by k_asm) F39 (by k_asm) N39 (by k_asm) rfl ⟨by rw [hvl]; assumption, hR3⟩ (fun p hp => by simp [hp]) hS (fun p hp => by simp [hp]) okg hS9 (by ktr_room) (by ktr_units) ?_
          intro fa fv fe ftl h40 tk40 F40 N40 B40 m40 L40 x40
          clear F39 N39
          have B41 := B40
          have B42 := o3
          have B43 := hbh3
          have B44 := hbh5
          simp only [Behind, List.cons_append, List.forall_mem_cons] at B41 B42 B43 B44
          repeat (have := B41.1; replace B41 := B41.2)
          repeat (have := B42.1; replace B42 := B42.2)
          repeat (have := B43.1; replace B43 := B43.2)
          repeat (have := B44.1; replace B44 := B44.2)
          have off6 := off5
          simp only [List.cons_append, LCg.Off1] at off6
          repeat (have := off6.1; replace off6 := off6.2)
          simp only [List.cons_append] at N40
          k_steps
          refine stop_out ?_
          (rename Fr _ _ _ _ => F41); (rename News _ _ _ _ => N41)
          refine law_glue (vc := ?vc) (vk := ?vk) (tn := ?tn) (tb2 := ?tb2) (tm2 := ?tm2) (tlA := tl) (tlB := tl3) (tlC := tl5) (tlD := ftl) (gs := gs) (by k_asm) (by k_asm) (by k_asm) F41 N41 ?m1 ?m2 ?m3 ?m4 ?m5 hb5 ?a1 ?a2 ?a3 ?a4 ?a5 ?a6 ?aA ?aB ?aC ?aD ?hLu ?dU ?dM ?dB ?dQ ?dK ?dS ⟨by rw [hvl]; assumption, hR3⟩ hgs (by rw [hvl]; assumption) hS m40 L40 x40 okg hvl hmany.1 hmany.2 hS4 hmd ?ret
          case m1 => rfl
          case m2 => rfl
          case m3 => rfl
          case m4 => rfl
          case m5 => rfl
          case dU => assumption
          case dM => assumption
          case dB => assumption
          case dQ => assumption
          case dK => assumption
          case dS => assumption
          case ret =>
            clear F41 N41
            intro m' news' h' tk' F50 N50
            k_steps
          case aA => exact fun p hp => ⟨o2 p hp, o3 _ (List.mem_cons_of_mem _ (List.mem_cons_of_mem _ List.mem_cons_self)) p hp, o3 _ List.mem_cons_self p hp⟩
          case aB => exact fun p hp => ⟨hbh3 _ (List.mem_cons_of_mem _ List.mem_cons_self) p hp, hbh3 _ (List.mem_cons_of_mem _ (List.mem_cons_of_mem _ (List.mem_cons_of_mem _ (List.mem_cons_of_mem _ List.mem_cons_self)))) p hp, hbh3 _ (List.mem_cons_of_mem _ (List.mem_cons_of_mem _ List.mem_cons_self)) p hp⟩
          case aC => exact fun p hp => ⟨ha5 p hp, hbh5 _ (List.mem_cons_of_mem _ (List.mem_cons_of_mem _ (List.mem_cons_of_mem _ (List.mem_cons_of_mem _ (List.mem_cons_of_mem _ (List.mem_cons_of_mem _ List.mem_cons_self)))))) p hp, hbh5 _ (List.mem_cons_of_mem _ (List.mem_cons_of_mem _ (List.mem_cons_of_mem _ (List.mem_cons_of_mem _ List.mem_cons_self)))) p hp⟩
          case aD => exact fun p hp => ⟨B40 _ (List.mem_cons_of_mem _ (List.mem_cons_of_mem _ List.mem_cons_self)) p hp, B40 _ (List.mem_cons_of_mem _ (List.mem_cons_of_mem _ (List.mem_cons_of_mem _ (List.mem_cons_of_mem _ (List.mem_cons_of_mem _ (List.mem_cons_of_mem _ (List.mem_cons_of_mem _ (List.mem_cons_of_mem _ (List.mem_cons_of_mem _ List.mem_cons_self))))))))) p hp, B40 _ (List.mem_cons_of_mem _ (List.mem_cons_of_mem _ (List.mem_cons_of_mem _ (List.mem_cons_of_mem _ (List.mem_cons_of_mem _ (List.mem_cons_of_mem _ (List.mem_cons_of_mem _ List.mem_cons_self))))))) p hp⟩
          all_goals first | assumption | (show @LT.lt Nat _ _ _; omega) | (refine ⟨?_, ?_, ?_⟩ <;> (first | assumption | exact fun e => absurd e.symm (by assumption) | (show @Ne Nat _ _; k_ne)))
          )
end
end
end Mine
theorem PySem.Challenge.cw_ok0141_01_holds : PySem.Challenge.rw_ok0141_01.Holds :=
  Mine.law_try
