import PyProof.Rows.All
import Wide.All
import OpenK.AllK
import Wide.FinOn
import Lean
import PySem.Challenge.RW_on0346_01
open PySem PySem.W PyProof.Rows PySem.Calls PySem.Spec
set_option Elab.async false
namespace Mine
set_option maxRecDepth 100000
set_option maxHeartbeats 16000000
section
/-- the statements of the top that the head looks at -/
def topView : Program := PySem.W.view PySem.Challenge.pw_on0346_01 [0, 2, 3, 5, 7, 8, 9, 10, 11, 13, 14, 15, 16, 18, 19, 20, 21, 22, 23, 24, 25, 26, 27, 28]
/-- the top's run over a heap kept as a tree -/
def topRunT (f : SharedT → Thread → Option (SharedT × Thread)) (ok : Thread → Bool) : Nat → SharedT → Thread → Option SharedT
  | 0, _, _ => none
  | n + 1, s, t => match through t with
    | true => some s
    | false => match ok t with
      | false => none
      | true => match f s t with
        | some (s', t') => topRunT f ok n s' t'
        | none => none
theorem topRunT_of {tb : String → Option Builtin} {p : Program} {w : World} {m : Nat} {ann : Option Value} (n : Nat) : ∀ (s : SharedT) (t : Thread) (e : SharedT), topRunT (stepT (denote tb) p w) (stepOk m ann) n s t = some e → topRun tb p w m ann n s.abs t = some e.abs := by
  induction n with
  | zero => intro s t e h; simp [topRunT] at h
  | succ n ih =>
    intro s t e h
    simp only [topRunT] at h
    simp only [topRun]
    split at h
    · rename_i q
      simp only [Option.some.injEq] at h
      simp [q, h]
    · rename_i q
      split at h
      · simp at h
      · rename_i q2
        split at h
        · rename_i q3
          simp only [q, q2, stepT_spec q3]
          exact ih _ _ _ h
        · simp at h
def treeOf (l : List Obj) : BT := (l.foldl (fun (x : BT × Nat) o => (x.1.ins x.2 o, x.2 + 1)) (BT.nil, 0)).1
noncomputable def bootT (w : World) (os : OsState) : SharedT := ⟨treeOf (boot_heap w.params).objs.toList, 11, (boot_heap w.params).life, Array.mk [], boot_drawn, boot_toks, os⟩
theorem bootT_abs (w : World) (os : OsState) : (bootT w os).abs = ⟨boot_heap w.params, Array.mk [], boot_drawn, boot_toks, os⟩ := by kernel_rfl
noncomputable def bootAnn (w : World) : Option Value := (boot_heap w.params).nsMap mainGlobals "__annotations__"
theorem boot_fit (w : World) (os : OsState) : (fun s : Shared => (s.heap.isNs mainGlobals && s.gens.size == 0, s.heap.objs.size, s.heap.nsMap mainGlobals "__annotations__")) (bootT w os).abs = (true, 11, bootAnn w) := by kernel_rfl
/-- three looks at the top's end are enough -/
theorem top_left {p q : Program} {loose : List Str} {Xt : Shared → Bool} {α : Type} {Yf : Shared → α} {Ya : World → α} {N : Nat}
    (begins : ∀ w : World, (fencedOpening treeTable p w N).map (fun s => (s.heap, s.gens, s.drawn, s.toks)) = some (boot_heap w.params, Array.mk [], boot_drawn, boot_toks))
    (ends : ∀ (w : World) (os : OsState), (topRunT (stepT (denote treeTable) p w) (stepOk 11 (bootAnn w)) N (bootT w os) (topStub p)).map (fun s => (staticsOk (importedModules p.main.body) (bootT w os).abs.heap s.abs.heap && namesBound p s.abs.heap && gensDone s.abs && laidKept (bootT w os).abs.heap s.abs.heap, Yf s.abs)) = some (true, Ya w))
    (seen1 : ∀ (w : World) (os : OsState), (topRunT (stepT (denote treeTable) p w) (stepOk 11 (bootAnn w)) N (bootT w os) (topStub p)).map (fun s => ((openSeen q loose (importedModules p.main.body) Xt true s.abs).1, (openSeen q loose (importedModules p.main.body) Xt true s.abs).2.1)) = some (expectedOf q, bltViewBooted))
    (seen2 : ∀ (w : World) (os : OsState), (topRunT (stepT (denote treeTable) p w) (stepOk 11 (bootAnn w)) N (bootT w os) (topStub p)).map (fun s => (openSeen q loose (importedModules p.main.body) Xt true s.abs).2.2) = some (true, true, pinGoodD (drecsOf q), plainGoodE q (looseW q loose), plainGoodD q loose, wideGood q, clsGoodW q loose)) : LeftO p q loose Xt Yf Ya N := by
  intro w
  have hb := begins w
  cases e : fencedOpening treeTable p w N with
  | none => simp [e] at hb
  | some s₀ =>
    have es : s₀ = (bootT w s₀.os).abs := by
      rw [bootT_abs]
      simp only [e, Option.map_some, Option.some.injEq, Prod.mk.injEq] at hb
      cases s₀
      simp_all
    generalize s₀.os = os at es
    subst es
    have hf := boot_fit w os
    simp only [Prod.mk.injEq] at hf
    have he := ends w os
    have h1 := seen1 w os
    have h2 := seen2 w os
    cases e2 : (topRunT (stepT (denote treeTable) p w) (stepOk 11 (bootAnn w)) N (bootT w os) (topStub p)) with
    | none => simp [e2] at he
    | some s =>
      have hr := topRunT_of N _ _ _ e2
      rw [e2, Option.map_some, Option.some.injEq] at he h1 h2
      simp only [Prod.mk.injEq] at he h1
      have hg : openSeen q loose (importedModules p.main.body) Xt true s.abs = openGood q loose := Prod.ext h1.1 (Prod.ext h1.2 h2)
      simp only [openEnds, e, Option.bind_some, topFrom, hf.1, hf.2.1, hf.2.2, hr, he.1, Option.map_some, hg, he.2]
theorem top_opens : ∀ w : World, (fencedOpening treeTable PySem.Challenge.pw_on0346_01 w 4644).map (fun s => (s.heap, s.gens, s.drawn, s.toks)) = some (boot_heap w.params, Array.mk [], boot_drawn, boot_toks) :=
  boot_open (by kernel_rfl) (by decide) (fun s => by kernel_rfl)
theorem top_seen1 (w : World) (os : OsState) : (topRunT (stepT (denote treeTable) PySem.Challenge.pw_on0346_01 w) (stepOk 11 (bootAnn w)) 4644 (bootT w os) (topStub PySem.Challenge.pw_on0346_01)).map (fun s => ((openSeen topView [Str.ofString "IpHeader", Str.ofString "ALL", Str.ofString "ALL_HOSTS"] (importedModules PySem.Challenge.pw_on0346_01.main.body) (fun s => xlAt topView [(Str.ofString "ALL", WData.int 4294967295), (Str.ofString "ALL_HOSTS", WData.int 4294967295)] s && recOk (RowW.records (OpenRow.toRowW (OpenLaw.row PySem.Challenge.rw_on0346_01))) s) true s.abs).1, (openSeen topView [Str.ofString "IpHeader", Str.ofString "ALL", Str.ofString "ALL_HOSTS"] (importedModules PySem.Challenge.pw_on0346_01.main.body) (fun s => xlAt topView [(Str.ofString "ALL", WData.int 4294967295), (Str.ofString "ALL_HOSTS", WData.int 4294967295)] s && recOk (RowW.records (OpenRow.toRowW (OpenLaw.row PySem.Challenge.rw_on0346_01))) s) true s.abs).2.1)) = some (expectedOf topView, bltViewBooted) := by rw [PySem.W.Fast.te10156331382660048174, PySem.W.Fast.te11892475500146522536, PySem.W.Fast.te6613529449190102663, PySem.W.Fast.te14364793385576792824, PySem.W.Fast.te4187177175401517315]; kernel_rfl
theorem top_seen2 (w : World) (os : OsState) : (topRunT (stepT (denote treeTable) PySem.Challenge.pw_on0346_01 w) (stepOk 11 (bootAnn w)) 4644 (bootT w os) (topStub PySem.Challenge.pw_on0346_01)).map (fun s => (openSeen topView [Str.ofString "IpHeader", Str.ofString "ALL", Str.ofString "ALL_HOSTS"] (importedModules PySem.Challenge.pw_on0346_01.main.body) (fun s => xlAt topView [(Str.ofString "ALL", WData.int 4294967295), (Str.ofString "ALL_HOSTS", WData.int 4294967295)] s && recOk (RowW.records (OpenRow.toRowW (OpenLaw.row PySem.Challenge.rw_on0346_01))) s) true s.abs).2.2) = some (true, true, pinGoodD (drecsOf topView), plainGoodE topView (looseW topView [Str.ofString "IpHeader", Str.ofString "ALL", Str.ofString "ALL_HOSTS"]), plainGoodD topView [Str.ofString "IpHeader", Str.ofString "ALL", Str.ofString "ALL_HOSTS"], wideGood topView, clsGoodW topView [Str.ofString "IpHeader", Str.ofString "ALL", Str.ofString "ALL_HOSTS"]) := by rw [PySem.W.Fast.te10156331382660048174, PySem.W.Fast.te11892475500146522536, PySem.W.Fast.te6613529449190102663, PySem.W.Fast.te14364793385576792824, PySem.W.Fast.te4187177175401517315]; kernel_rfl
/- the head of the law, its run of the top in one look over a tree (the pieces that o_head lays by itself make the compiled file too big) -/
set_option hygiene false in
local macro_rules | `(tactic| o_head $H) => `(tactic| (refine holds_open (q := topView) (loose := [Str.ofString "IpHeader", Str.ofString "ALL", Str.ofString "ALL_HOSTS"]) (Xt := fun s => xlAt topView [(Str.ofString "ALL", WData.int 4294967295), (Str.ofString "ALL_HOSTS", WData.int 4294967295)] s && recOk (RowW.records (OpenRow.toRowW (OpenLaw.row PySem.Challenge.rw_on0346_01))) s) (XP := XL topView [(Str.ofString "ALL", WData.int 4294967295), (Str.ofString "ALL_HOSTS", WData.int 4294967295)]) (Yf := Hook.obs $H) (Ya := Hook.val $H) (YP := Hook.says $H) (N := 4644) ?hl (Hook.of $H) (Hook.keeps $H) (fun s e => xl_of s (Bool.and_eq_true_iff.mp e).1) XL.keeps (by rfl) (by rfl) (by rfl) (fun s e => recFacts_of (Bool.and_eq_true_iff.mp e).2) (by rfl) (by first | assumption | decide +kernel) (by decide +kernel) ⟨rfl, rfl, rfl, rfl, rfl, by decide +kernel⟩ ?hw ?hc; (case hl => exact top_left top_opens (by intro w os; rw [PySem.W.Fast.te10156331382660048174, PySem.W.Fast.te11892475500146522536, PySem.W.Fast.te6613529449190102663, PySem.W.Fast.te14364793385576792824]; kernel_rfl) top_seen1 top_seen2)))
open_top hd for PySem.Challenge.rw_on0346_01
end

def Runs (w : World) (d : Nat) (f : Addr) (vs : List Value) (news : List (Addr × Obj)) (Out : Value → List (Addr × Obj) → Prop) : Prop :=
  ∀ (p : Program) (loose : List Str) (mean : ExcName → Option Value) (mg mb : Str → Option Value) (dp un : Nat) (gd : Option (List Code)) (cn : Str) (cs : Scope) (a : Addr) (ccd : Value) (cl : List (Str × Addr)) (outer : List Env) (A₀ : Around) (base h₀ : Heap) (L : Addr) (m : Str → Option Value) (s : Shared)
    (Q E : Value → Shared → Prop),
    Below A₀ base outer h₀ → Fr h₀ L s.heap m → (hd.heap_39 w.params).In h₀ → News h₀ L s.heap news → Top p loose mean mg mb h₀ → cs.kind = .function → dp + d < recursionLimit → un + 8 * d < cLine →
    (∀ r news' h' tk', Fr h₀ L h' m → News h₀ L h' news' → Out r news' → Q r { s with heap := h', toks := tk' }) →
    wpAny (model PySem.Challenge.rw_on0346_01.row.prog w) (ktrTop dp un gd cn cs L a ccd cl outer) (call (.ref f) vs) Q E s

theorem log_small {y : Int} (h0 : 0 ≤ y) (h : y ≤ 4294967296) : y.natAbs.log2 < 9000 := by
  by_cases e : y.natAbs = 0
  · rw [e]; decide +kernel
  · have : y.natAbs.log2 < 34 := (Nat.log2_lt e).mpr (by omega)
    omega

theorem runs_use {w : World} {d : Nat} {f : Addr} {vs : List Value} {news : List (Addr × Obj)} {Out : Value → List (Addr × Obj) → Prop} {p : Program} {loose : List Str} {mean : ExcName → Option Value} {mg mb : Str → Option Value} {dp un : Nat} {gd : Option (List Code)} {cn : Str} {cs : Scope} {a : Addr} {ccd : Value} {cl : List (Str × Addr)} {outer : List Env} {A₀ : Around} {base h₀ : Heap} {L : Addr} {m : Str → Option Value} {s : Shared}
    {Q E : Value → Shared → Prop} (B : Below A₀ base outer h₀) (F : Fr h₀ L s.heap m) (X : (hd.heap_39 w.params).In h₀) (N : News h₀ L s.heap news) (T : Top p loose mean mg mb h₀) (hk : cs.kind = .function) (C : Runs w d f vs news Out) (hd' : dp + d < recursionLimit) (hu : un + 8 * d < cLine)
    (ret : ∀ r news' h' tk', Fr h₀ L h' m → News h₀ L h' news' → Out r news' → Q r { s with heap := h', toks := tk' }) :
    wpAny (model PySem.Challenge.rw_on0346_01.row.prog w) (ktrTop dp un gd cn cs L a ccd cl outer) (call (.ref f) vs) Q E s :=
  C p loose mean mg mb dp un gd cn cs a ccd cl outer A₀ base h₀ L m s Q E B F X N T hk hd' hu ret

/-- an entry of the ledger set apart -/
inductive Pick (d : Addr) (o : Obj) : List (Addr × Obj) → List (Addr × Obj) → Prop
  | head {r} : (∀ p ∈ r, p.1 ≠ d) → Pick d o ((d, o) :: r) r
  | tail {p l r} : p.1 ≠ d → Pick d o l r → Pick d o (p :: l) (p :: r)
theorem Pick.off {d : Addr} {o : Obj} {l r : List (Addr × Obj)} (h : Pick d o l r) : ∀ p ∈ r, p.1 ≠ d := by
  induction h with
  | head h => exact h
  | tail h _ ih => exact List.forall_mem_cons.mpr ⟨h, ih⟩
theorem Pick.sub {d : Addr} {o : Obj} {l r : List (Addr × Obj)} (h : Pick d o l r) : ∀ p ∈ (d, o) :: r, p ∈ l := by
  induction h with
  | head h => exact fun _ h => h
  | tail h _ ih =>
    intro q hq
    rcases List.mem_cons.mp hq with rfl | hq
    · exact .tail _ (ih _ (.head _))
    · rcases List.mem_cons.mp hq with rfl | hq
      · exact .head _
      · exact .tail _ (ih _ (.tail _ hq))
theorem Pick.news {h₀ h : Heap} {L d : Addr} {o : Obj} {l r : List (Addr × Obj)} (k : Pick d o l r) (N : News h₀ L h l) : News h₀ L h ((d, o) :: r) := fun p hp => N p (k.sub p hp)

/-- the pool that draws come from -/
def SrcOk (o : Obj) : Prop := ∃ s0 t0 s1 t1 n, o = listOf #[.int s0 t0, .int s1 t1] n ∧ 0 ≤ s0 ∧ 0 ≤ s1 ∧ s1 < 2147483647
theorem news_sub {h₀ h : Heap} {L : Addr} {l l' : List (Addr × Obj)} (N : News h₀ L h l) (hs : ∀ p ∈ l', p ∈ l) : News h₀ L h l' := fun p hp => N p (hs p hp)
theorem off1_all {D : Addr} : ∀ {l : List (Addr × Obj)}, LCg.Off1 D l → ∀ p ∈ l, p.1 ≠ D
  | [], _ => fun _ h => nomatch h
  | _ :: _, h => List.forall_mem_cons.mpr ⟨h.1, off1_all h.2⟩
theorem map_knows {m : Str → Option Value} {x : Str} {v : Value} (e : m x = some v) : m = fun z => if z = x then some v else m z := by
  funext z
  by_cases h : z = x
  · rw [if_pos h, h, e]
  · rw [if_neg h]
/-- the layer's dict: its faces, its last number -/
abbrev layD (q1 q2 q3 q4 q5 : Int) (k1 k2 k3 k4 k5 : Tok) (e1 e2 e3 e4 : Value) (i : Int) (ti : Tok) : Obj := dictOf [⟨q1, .str (Str.ofString "faces") k1, e1⟩, ⟨q2, .str (Str.ofString "routes") k2, e2⟩, ⟨q3, .str (Str.ofString "reassembly") k3, e3⟩, ⟨q4, .str (Str.ofString "forwards") k4, e4⟩, ⟨q5, .str (Str.ofString "last_ident") k5, .int i ti⟩] 5
/-- a face's dict -/
abbrev rowD (q1 q2 q3 : Int) (k1 k2 k3 : Tok) (a p : Int) (ta tp tm : Tok) : Obj := dictOf [⟨q1, .str (Str.ofString "address") k1, .int a ta⟩, ⟨q2, .str (Str.ofString "prefix") k2, .int p tp⟩, ⟨q3, .str (Str.ofString "mtu") k3, .int 1500 tm⟩] 3
/-- a face as the law holds it -/
abbrev tupO (a p : Int) (ta tp : Tok) (n : Nat) : Obj := { cls := .type "tuple", data := .seq #[.int a ta, .int p tp] n }
/-- a goal at which the walk rests -/
def Stop (P : Prop) : Prop := P
theorem Stop.out {P : Prop} (h : Stop P) : P := h
theorem Stop.on {P : Prop} (h : P) : Stop P := h
/-- the faces as the law holds them -/
def FacesAre (news : List (Addr × Obj)) (vs : List Value) (fs : List (Int × Int)) : Prop :=
  vs.length = fs.length ∧ ∀ (i : Nat) (v : Value), vs[i]? = some v → ∃ (f : Int × Int) (fc : Addr) (ta tp : Tok) (n : Nat), fs[i]? = some f ∧ v = .ref fc ∧ (fc, tupO f.1 f.2 ta tp n) ∈ news
def RowsAre (news : List (Addr × Obj)) (vs : List Value) (fs : List (Int × Int)) : Prop :=
  vs.length = fs.length ∧ ∀ (i : Nat) (v : Value), vs[i]? = some v → ∃ (f : Int × Int) (rw rd : Addr) (q1 q2 q3 : Int) (k1 k2 k3 ta tp tm : Tok), fs[i]? = some f ∧ v = .ref rw ∧ (rw, instObj 148 rd) ∈ news ∧ (rd, rowD q1 q2 q3 k1 k2 k3 f.1 f.2 ta tp tm) ∈ news
def FacesOk (fs : List (Int × Int)) : Prop := ∀ f ∈ fs, 0 ≤ f.1 ∧ f.1 < 4294967296 ∧ 0 ≤ f.2 ∧ f.2 ≤ 32
theorem FacesAre.mono {news news' : List (Addr × Obj)} {vs : List Value} {fs : List (Int × Int)} (h : FacesAre news vs fs) (s : ∀ p ∈ news, p ∈ news') : FacesAre news' vs fs :=
  ⟨h.1, fun i v e => let ⟨f, fc, ta, tp, n, a, b, c⟩ := h.2 i v e; ⟨f, fc, ta, tp, n, a, b, s _ c⟩⟩
theorem RowsAre.mono {news news' : List (Addr × Obj)} {vs : List Value} {fs : List (Int × Int)} (h : RowsAre news vs fs) (s : ∀ p ∈ news, p ∈ news') : RowsAre news' vs fs :=
  ⟨h.1, fun i v e => let ⟨f, rw, rd, q1, q2, q3, k1, k2, k3, ta, tp, tm, a, b, c, d⟩ := h.2 i v e; ⟨f, rw, rd, q1, q2, q3, k1, k2, k3, ta, tp, tm, a, b, s _ c, s _ d⟩⟩
theorem FacesAre.snoc {news : List (Addr × Obj)} {vs : List Value} {fs : List (Int × Int)} (h : FacesAre news vs fs) {fc : Addr} {a p : Int} {ta tp : Tok} {n : Nat} (hm : (fc, tupO a p ta tp n) ∈ news) : FacesAre news (vs ++ [.ref fc]) (fs ++ [(a, p)]) := by
  refine ⟨by simp [h.1], fun i v e => ?_⟩
  by_cases hi : i < vs.length
  · rw [List.getElem?_append_left hi] at e
    obtain ⟨f, fc', ta', tp', n', a', b', c'⟩ := h.2 i v e
    exact ⟨f, fc', ta', tp', n', by rw [List.getElem?_append_left (by rw [← h.1]; exact hi)]; exact a', b', c'⟩
  · have hi' : i = vs.length := by
      have := (List.getElem?_eq_some_iff.mp e).1
      rw [List.length_append] at this; simp at this; omega
    subst hi'
    simp at e
    exact ⟨(a, p), fc, ta, tp, n, by rw [h.1]; simp, e.symm, hm⟩
theorem allLt_ne {d : Addr} : ∀ {l : List (Addr × Obj)}, AllLt d l → ∀ p ∈ l, p.1 ≠ d
  | [], _ => fun _ h => nomatch h
  | _ :: _, h => List.forall_mem_cons.mpr ⟨Nat.ne_of_lt h.1, allLt_ne h.2⟩


theorem mul_ok_fmod (x y : Int) : IntMulOk y (x.fmod 2147483647) := by
  refine IntMulOk.of_right (intBits_le_64 ?_ ?_)
  · have := Int.fmod_nonneg_of_pos x (b := 2147483647) (by decide); omega
  · have := Int.fmod_lt_of_pos x (b := 2147483647) (by decide); omega
theorem fdiv_le_self' {a b : Int} (ha : 0 ≤ a) (hb : 0 < b) : a.fdiv b ≤ a := by
  rw [Int.fdiv_eq_ediv_of_nonneg _ (by omega)]
  exact Int.ediv_le_self _ ha
theorem fdiv_nn {a b : Int} (ha : 0 ≤ a) (hb : 0 < b) : 0 ≤ a.fdiv b := by
  rw [Int.fdiv_eq_ediv_of_nonneg _ (by omega)]
  exact Int.ediv_nonneg ha (by omega)

section
local macro_rules | `(tactic| k_all) => `(tactic| assumption)
local macro_rules | `(tactic| walk_at "binaryOp FloorDiv int int") => `(tactic| (k_here; (with_reducible refine floordiv_int ?b ?_ (Or.inl (PyProof.noPylong_of_log2 (log_small ?l ?u)))); (case b => omega); (case l => omega); (case u => omega)))
local macro_rules | `(tactic| walk_at "binaryOp Mult int int") => `(tactic| (k_here; (with_reducible refine mul_int ?_ ?ok); (case ok => exact mul_ok_fmod _ _)))
theorem take_runs {w : World} {src : Addr} {o : Obj} {top : Int} {tt : Tok} {rest : List (Addr × Obj)} (hr : ∀ p ∈ rest, p.1 ≠ src) (ho : SrcOk o) (ht : 0 < top) (ht' : top ≤ 4294967296) :
    Runs w 1 273 [.ref src, .int top tt] ((src, o) :: rest) (fun r news' => ∃ x t o', r = .int x t ∧ 0 ≤ x ∧ x < top ∧ SrcOk o' ∧ news' = (src, o') :: rest) := by
  obtain ⟨s0, t0, s1, t1, n, rfl, h0, h1, h1'⟩ := ho
  unfold Runs
  k_fill
  intro p loose mean mg mb dp un gd cn cs a ccd cl outer A₀ base h₀ L m s Q E B F X N T hk hd hu hret
  refine wpAny_call ?_
  k_dflt ktr_enter
  k_steps
  · exact hret _ _ _ _ (by assumption) (by assumption) ⟨_, _, _, rfl, Int.fmod_nonneg_of_pos _ ht, Int.fmod_lt_of_pos _ ht, ⟨_, _, _, _, _, rfl, fdiv_nn h0 ht, h1, h1'⟩, rfl⟩
  · exact hret _ _ _ _ (by assumption) (by assumption) ⟨_, _, _, rfl, Int.fmod_nonneg_of_pos _ ht, Int.fmod_lt_of_pos _ ht, ⟨_, _, _, _, _, rfl, h0, Int.fmod_nonneg_of_pos _ (by decide), Int.fmod_lt_of_pos _ (by decide)⟩, rfl⟩
end

theorem take_use {w : World} {src : Addr} {o : Obj} {top : Int} {tt : Tok} {news rest : List (Addr × Obj)} {p : Program} {loose : List Str} {mean : ExcName → Option Value} {mg mb : Str → Option Value} {dp un : Nat} {gd : Option (List Code)} {cn : Str} {cs : Scope} {a : Addr} {ccd : Value} {cl : List (Str × Addr)} {outer : List Env} {A₀ : Around} {base h₀ : Heap} {L : Addr} {m : Str → Option Value} {s : Shared}
    {Q E : Value → Shared → Prop} (B : Below A₀ base outer h₀) (F : Fr h₀ L s.heap m) (X : (hd.heap_39 w.params).In h₀) (N : News h₀ L s.heap news) (T : Top p loose mean mg mb h₀) (hk : cs.kind = .function) (P : Pick src o news rest) (ho : SrcOk o) (ht : 0 < top) (ht' : top ≤ 4294967296) (hd' : dp + 1 < recursionLimit) (hu : un + 8 * 1 < cLine)
    (ret : ∀ x t o' h' tk', 0 ≤ x → x < top → SrcOk o' → Fr h₀ L h' m → News h₀ L h' ((src, o') :: rest) → Q (.int x t) { s with heap := h', toks := tk' }) :
    wpAny (model PySem.Challenge.rw_on0346_01.row.prog w) (ktrTop dp un gd cn cs L a ccd cl outer) (call (.ref 273) [.ref src, .int top tt]) Q E s :=
  runs_use B F X (P.news N) T hk (take_runs P.off ho ht ht') hd' hu fun r news' h' tk' F' N' ⟨x, t, o', e, h1, h2, h3, en⟩ => by
    subst e en; exact ret x t o' h' tk' h1 h2 h3 F' N'
local macro_rules | `(tactic| k_all) => `(tactic| assumption)
local macro_rules | `(tactic| k_mem) => `(tactic| first | exact List.Mem.head _ | assumption | (refine' List.Mem.tail _ ?_; k_mem))
local macro_rules | `(tactic| k_mem) => `(tactic| ((with_reducible show Pick _ _ _ _); first | (refine' Pick.head ?a; (case a => k_all)) | (refine' Pick.tail ?a ?b; (case a => k_ne); (case b => k_mem))))
local macro_rules | `(tactic| is_list) => `(tactic| exact News.isList (by assumption) (by k_mem))
local macro_rules | `(tactic| walk_at "binaryOp FloorDiv int int") => `(tactic| (k_here; (with_reducible refine floordiv_int ?b ?_ (Or.inl (PyProof.noPylong_of_log2 (log_small ?l ?u)))); (case b => omega); (case l => omega); (case u => omega)))
local macro_rules | `(tactic| k_room) => `(tactic| ktr_room)
local macro_rules | `(tactic| walk_at "compareOp Eq ref ref") => `(tactic| (k_here; (with_reducible show wpAny _ _ (compareOp CmpOp.Eq (Value.ref _) (Value.ref _)) _ _ _); (with_unfolding_all refine' eq_intsK ?k1 ?k2 ?k3 ?k4 ?k5 ?_; (case k1 => is_list); (case k2 => l_ints); (case k3 => is_list); (case k4 => l_ints); (case k5 => ktr_units); k_whole)))
local macro_rules | `(tactic| walk_at "eval Call") => `(tactic| ((with_reducible show wpAny _ _ (eval (Expr.Call (Expr.Name _ _) _ [] _) _) _ _ _); k_dflt (refine Call_ ?_)))
local macro_rules | `(tactic| walk_at "binaryOp Pow int int") => `(tactic| (k_here; (with_reducible refine pow_int_small ?ka ?kb ?kc ?_); k_dflt ((case ka => decide); (case kb => decide); (case kc => decide))))
/- part B1 -/
section
def bitsZ (x : Int) : List Int := List.map (fun k' => (x.fdiv (2 ^ (31 - k').toNat)).fmod 2) (rangeKs 0 ((32 : Int) - 0).toNat)
theorem bitsZ_length (x : Int) : (bitsZ x).length = 32 := by simp [bitsZ, rangeKs]
theorem bitsZ_mem {x b : Int} (h : b ∈ bitsZ x) : 0 ≤ b ∧ b ≤ 1 := by
  obtain ⟨k, _, rfl⟩ := List.mem_map.mp h
  exact ⟨Int.fmod_nonneg_of_pos _ (by decide), Int.le_of_lt_add_one (Int.fmod_lt_of_pos _ (by decide))⟩
theorem bits_runs {w : World} {x : Int} {t : Tok} {news : List (Addr × Obj)} (h0 : 0 ≤ x) (h1 : x < 4294967296) :
    Runs w 1 285 [.int x t] news (fun r news' => ∃ l vs n, r = .ref l ∧ (∀ p ∈ news, p.1 ≠ l) ∧ IntsAre vs (bitsZ x) ∧ (bitsZ x).length = 32 ∧ news' = (l, listOf vs.toArray n) :: news) := by
  unfold Runs
  k_fill
  intro p loose mean mg mb dp un gd cn cs a ccd cl outer A₀ base h₀ L m s Q E B F X N T hk hd hu hret
  refine wpAny_call ?_
  k_dflt (refine' code_defC ?k1 ?k2 ?k3 ?k4 ?k5 ?kA ?kF ?kK ?k6 ?k7 ?k8 ?k9 ?kB ?kD ?_ ?c2 ?c3 ?c4; (case kA => exact rfl); (case kF => exact rfl); (case kK => assumption); (case k1 => k_asm); (case k2 => k_asm); (case k3 => k_asm); (case k4 => k_asm); (case k5 => k_asm); (case k6 => k_is); (case k7 => k_is); (case k8 => ktr_room); (case k9 => exact BindsTo.of_eq rfl); (case kB => exact rfl); (case kD => decide +kernel); (case c2 => exact rfl); (case c3 => exact rfl); (case c4 => exact rfl); k_whole; intro g' L' h' tk' cells' FG' F' N' Y' B' X' T' l1; (try k_lt l1); k_cells Y'; (try simp only [List.cons_append, List.nil_append] at N'); (try dsimp only); (try k_fold))
  k_steps
  exact hret _ _ _ _ (by assumption) (fun p hp => (by assumption : News _ _ _ (_ :: _ :: news)) p (by rcases List.mem_cons.mp hp with rfl | hp; exact .head _; exact .tail _ (.tail _ hp))) ⟨_, _, _, rfl, off1_all (And.right (by assumption)), by assumption, bitsZ_length x, rfl⟩

end
/- part B2 -/
section
theorem number_runs {w : World} {l : Addr} {vs : List Value} {ns : List Int} {n : Nat} {news : List (Addr × Obj)} (hm : (l, listOf vs.toArray n) ∈ news) (hi : IntsAre vs ns) (hl : ns.length = 32) (hb : ∀ b ∈ ns, 0 ≤ b ∧ b ≤ 1) :
    Runs w 1 292 [.ref l] news (fun r news' => ∃ y t, r = .int y t ∧ 0 ≤ y ∧ y < 4294967296 ∧ news = news') := by
  unfold Runs
  k_fill
  intro p loose mean mg mb dp un gd cn cs a ccd cl outer A₀ base h₀ L m s Q E B F X N T hk hd hu hret
  refine wpAny_call ?_
  k_dflt ktr_enter
  k_steps
  (with_unfolding_all refine' For_invVF (by assumption) ?k1 ?k2 ?_; (case k1 => exact rfl); (case k2 => exact rfl); k_whole)
  k_steps
  refine kdl_iter (nn := n) (vs := vs) (fun i m₁ nx => nx = news ∧ (∃ y ty, m₁ (Str.ofString "found") = some (.int y ty) ∧ 0 ≤ y ∧ y < 2 ^ i)) (by rfl) hm (by assumption) (by assumption) ⟨rfl, _, _, rfl, by decide, by decide⟩ ?_ ?_
  · rintro i v m₁ nx h tk own hv hoff hmem ⟨rfl, y, ty, hy, y0, y1⟩ F₁ N₁
    obtain ⟨b, tb, rfl, hbn⟩ := hi.at i v hv
    have hb' := hb b (List.mem_of_getElem? hbn)
    rw [map_knows hy] at F₁
    k_steps
    refine ⟨_, _, _, _, nx, rfl, by assumption, by assumption, fun p hp => List.mem_append.mpr (.inl hp), fun p hp => List.mem_append.mpr (.inr hp), hoff, hmem, rfl, _, _, rfl, by omega, ?_⟩
    rw [Int.pow_succ]; omega
  · rintro m₁ nx h tk ⟨rfl, y, ty, hy, y0, y1⟩ F₁ N₁
    rw [map_knows hy] at F₁
    k_steps
    rw [hi.length, hl] at y1
    exact hret _ _ _ _ (by assumption) (by assumption) ⟨_, _, rfl, y0, y1, rfl⟩

end
/- part B3 -/
section
section
local macro_rules | `(tactic| walk_at "call ref") => `(tactic| (k_here; k_dflt (refine' take_use ?k1 ?k2 ?k3 ?k4 ?k5 ?k6 ?k7 ?k8 ?k9 ?k10 ?k11 ?k12 ?_; (case k1 => k_asm); (case k2 => k_asm); (case k3 => k_asm); (case k4 => k_asm); (case k5 => k_asm); (case k6 => first | exact rfl | assumption); (case k7 => k_mem); (case k8 => assumption); (case k9 => omega); (case k10 => omega); (case k11 => ktr_room); (case k12 => ktr_units); intro x' t' o' h' tk' hx0' hx1' ho' F' N')))
theorem one_runs {w : World} {src l : Addr} {o : Obj} {vs : List Value} {ns : List Int} {n : Nat} {rest : List (Addr × Obj)} (hr : ∀ p ∈ rest, p.1 ≠ src) (ho : SrcOk o) (hm : (l, listOf vs.toArray n) ∈ rest) (hi : IntsAre vs ns) (hl : 0 < ns.length) (hl' : ns.length < 100) :
    Runs w 2 280 [.ref src, .ref l] ((src, o) :: rest) (fun r news' => ∃ y t o', r = .int y t ∧ y ∈ ns ∧ SrcOk o' ∧ news' = (src, o') :: rest) := by
  unfold Runs
  k_fill
  intro p loose mean mg mb dp un gd cn cs a ccd cl outer A₀ base h₀ L m s Q E B F X N T hk hd hu hret
  refine wpAny_call ?_
  k_dflt ktr_enter
  k_steps
  rename_i x _ _ _ _ h0 h1 _ _ _ _ _ _ _ _ _ _
  refine hret _ _ _ _ (by assumption) (by assumption) ⟨_, _, _, rfl, ?_, by assumption, rfl⟩
  rw [List.getD_eq_getElem?_getD, List.getElem?_eq_getElem (by omega)]
  exact List.getElem_mem _
end

end
/- part B5 -/
section
theorem ident_runs {w : World} {lay ld : Addr} {e1 e2 e3 e4 : Value} {q1 q2 q3 q4 q5 : Int} {k1 k2 k3 k4 k5 : Tok} {i : Int} {ti : Tok} {rest : List (Addr × Obj)} (hr : ∀ p ∈ rest, p.1 ≠ ld) (hm : (lay, instObj 255 ld) ∈ rest) :
    Runs w 1 181 [.ref lay] ((ld, layD q1 q2 q3 q4 q5 k1 k2 k3 k4 k5 e1 e2 e3 e4 i ti) :: rest) (fun r news' => ∃ t t', r = .int ((i + 1).fmod 65536) t ∧ news' = (ld, layD q1 q2 q3 q4 q5 k1 k2 k3 k4 k5 e1 e2 e3 e4 ((i + 1).fmod 65536) t') :: rest) := by
  unfold Runs
  k_fill
  intro p loose mean mg mb dp un gd cn cs a ccd cl outer A₀ base h₀ L m s Q E B F X N T hk hd hu hret
  refine wpAny_call ?_
  k_dflt ktr_enter
  k_steps
  exact hret _ _ _ _ (by assumption) (by assumption) ⟨_, _, rfl, rfl⟩

end
/- part B6 -/
section

def castZ (x ad pf : Int) : Bool := (x == 4294967295) || (decide (pf < 31) && (x == Builtin.bitAnd ad (4294967295 - (2 ^ (32 - pf).toNat - 1)) + (4294967295 - (4294967295 - (2 ^ (32 - pf).toNat - 1)))))
theorem cast1 {x ad pf : Int} (h : x = 4294967295) : true = castZ x ad pf := by simp [castZ, h]
theorem cast2 {x ad pf : Int} (h : ¬ x = 4294967295) (h2 : pf ≥ 31) : false = castZ x ad pf := by simp [castZ, h, show ¬ pf < 31 by omega]
theorem cast3 {x ad pf : Int} (h : ¬ x = 4294967295) (h2 : ¬ pf ≥ 31) : (x == Builtin.bitAnd ad (4294967295 - (2 ^ (32 - pf).toNat - 1)) + (4294967295 - (4294967295 - (2 ^ (32 - pf).toNat - 1)))) = castZ x ad pf := by simp [castZ, h, show pf < 31 by omega]
theorem cast_runs {w : World} {x ad pf : Int} {t ta tp : Tok} {news : List (Addr × Obj)} (h0 : 0 ≤ x) (h1 : x < 4294967296) (a0 : 0 ≤ ad) (a1 : ad < 4294967296) (p0 : 0 ≤ pf) (p1 : pf ≤ 32) :
    Runs w 3 131 [.int x t, .int ad ta, .int pf tp] news (fun r news' => r = .bool (castZ x ad pf) ∧ news = news') := by
  unfold Runs
  k_fill
  intro p loose mean mg mb dp un gd cn cs a ccd cl outer A₀ base h₀ L m s Q E B F X N T hk hd hu hret
  refine wpAny_call ?_
  k_dflt ktr_enter
  k_steps
  · exact hret _ news _ _ (by assumption) (by assumption) ⟨congrArg Value.bool (cast1 (by assumption)), rfl⟩
  · exact hret _ news _ _ (by assumption) (by assumption) ⟨congrArg Value.bool (cast2 (by assumption) (by assumption)), rfl⟩
  · exact hret _ news _ _ (by assumption) (by assumption) ⟨congrArg Value.bool (cast3 (by assumption) (by assumption)), rfl⟩

end
/- part L1 -/
section
theorem allObj_mono : ∀ {ws : List (Addr × String)} {k k' : List (Addr × Obj) → Prop}, (∀ its, k its → k' its) → AllObj ws k → AllObj ws k'
  | [], _, _, h, x => h [] x
  | _ :: _, _, _, h, x => fun o ho => allObj_mono (fun its y => h _ y) (x o ho)
section
variable {prog : Program} {w : World} {A : Around} {E : Value → Shared → Prop} {s : Shared} {env : Env} {h₀ : Heap} {x : Str} {target : Expr} {body : List Stmt} {Q : Flow → Shared → Prop}

/-- a loop over a range, by what holds of the frame and of the ledger between the turns -/
theorem range_inv {r : Addr} {a₀ b₀ : Int} {t₀ u₀ v₀ : Tok} {n : Nat} {m₀ : Str → Option Value} {news : List (Addr × Obj)} (J : Nat → (Str → Option Value) → List (Addr × Obj) → Prop)
    (hh : A.handled = none) (hr : IsRange s.heap r a₀ b₀ 1 t₀ u₀ v₀) (hsmall : Builtin.Range.small a₀ b₀ 1 = true) (hsz : Builtin.Range.rangeSize a₀ b₀ 1 = (n : Int)) (F : Fr h₀ env.locals s.heap m₀) (N : News h₀ env.locals s.heap news) (hj : J 0 m₀ news)
    (turn : ∀ i t m₁ nx h tk own, i < n → OwnOff own (nx.map (·.1)) → J i m₁ nx → Fr h₀ env.locals h (fun y => if y = x then some (.int (a₀ + (i : Int) * 1) t) else m₁ y) → News h₀ env.locals h (nx ++ own) →
      wpAny (model prog w) A (execs body env) (InvPostG h₀ env.locals (J (i + 1)) own { s with heap := h, toks := tk } Q) E { s with heap := h, toks := tk })
    (done : ∀ m₁ nx h tk, J n m₁ nx → Fr h₀ env.locals h m₁ → News h₀ env.locals h nx → Q .next { s with heap := h, toks := tk }) :
    wpAny (model prog w) A (pyIter (.ref r)) (fun it s₂ => LoopAtV prog w A h₀ env x body Q E it s₂) E s := by
  refine wpAny_pyIter_range hr hsmall ?_
  refine kdr_loop J (Walks.range (prog := prog) (w := w) hh s.heap.objs.size a₀ 1 n) (fun _ h => h) (fun _ h => h) ?_ ?_ ?_ ?_ (by show IsRangeIter _ _ _ _ _; rw [hsz]; simpa using Heap.get?_push_size _ rfl) (F.push _) (fun p hp => ⟨Heap.get?_push_of_some _ (N p hp).1, (N p hp).2⟩) hj ?_ done
  · intro i h hi b hb; rw [List.mem_singleton.mp hb]; exact ⟨_, hi⟩
  · intro hm; exact absurd F.ns.lt ((List.mem_singleton.mp hm) ▸ Nat.lt_irrefl _)
  · intro b hb; rw [List.mem_singleton.mp hb]; exact next_is_new F
  · intro p hp hI; exact absurd (Heap.lt_size (N p hp).1) ((List.mem_singleton.mp hI) ▸ Nat.lt_irrefl _)
  · rintro i v m₁ nx h tk own hi ⟨t, rfl⟩ hoff hJ F₁ N₁
    exact turn i t m₁ nx h tk own hi hoff hJ F₁ N₁

/-- turns over items, by what holds before each -/
theorem items_inv {ws : List (Addr × String)} {keep : List (Addr × Obj)} (J : List Itm → (Str → Option Value) → List (Addr × Obj) → Prop)
    (turn : ∀ a r m₁ nx v h tk, J (a :: r) m₁ nx → a.Is v h → Fr h₀ env.locals h m₁ → AllObj ws (fun its => News h₀ env.locals h (its ++ nx) →
      wpAny (model prog w) A (assign target env v) (fun _ s₂ => wpAny (model prog w) A (execs body env) (UnrPostW h₀ env.locals { s with heap := h, toks := tk } its (fun m' n' => SubL keep n' ∧ J r m' n') Q) E s₂) E { s with heap := h, toks := tk }))
    (done : ∀ m₁ nx h tk, J [] m₁ nx → Fr h₀ env.locals h m₁ → News h₀ env.locals h nx → Q .next { s with heap := h, toks := tk }) :
    ∀ xs m₁ nx, J xs m₁ nx → ItemsRest prog w A E h₀ env target body Q s ws keep xs m₁ nx
  | [], m₁, nx, hj => fun h tk F N => done m₁ nx h tk hj F N
  | a :: r, m₁, nx, hj => by
    have ih := items_inv J turn done r
    intro v h tk ha F
    have T := turn a r m₁ nx v h tk hj ha F
    refine allObj_mono (fun its hT N => ?_) T
    refine wpAny_mono (hT N) (fun _ s₂ h₂ => wpAny_mono h₂ (fun f s₃ h₃ => ?_) fun _ _ e => e) fun _ _ e => e
    cases f with
    | ret v => exact h₃
    | brk => exact h₃
    | next => obtain ⟨h', tk', m', n', e, F', N', o, k, j⟩ := h₃; exact ⟨h', tk', m', n', e, F', N', o, k, ih _ _ j⟩
    | cont => obtain ⟨h', tk', m', n', e, F', N', o, k, j⟩ := h₃; exact ⟨h', tk', m', n', e, F', N', o, k, ih _ _ j⟩
end

end
/- part L2 -/
section
section
open LCg
variable {prog : Program} {w : World} {A : Around} {E : Value → Shared → Prop} {s : Shared} {h₀ : Heap} {L : Addr} {m : Str → Option Value} {env : Env}
theorem compEnd_mono {s₁ : Shared} {I C D : Addr} {oI oC oD : Obj} {S : List (Addr × Obj) → Prop} {r r' : Value → List (Addr × Obj) → Prop} {y : Value} {s₂ : Shared} (hr : ∀ y nw, r y nw → r' y nw)
    (x : CompEnd h₀ L m s₁ I oI C oC D oD S r y s₂) : CompEnd h₀ L m s₁ I oI C oC D oD S r' y s₂ := by
  obtain ⟨h', tk, nw, e, F, N, o, hs, k⟩ := x
  exact ⟨h', tk, nw, e, F, N, o, hs, hr _ _ k⟩

/-- a list comprehension, by what holds of the items made and of the ledger -/
theorem comp_inv {elt : Expr} {x : Str} {scope : Scope} {cl : List (Str × Addr)} {S : List (Addr × Obj) → Prop} {P : Nat → Value → Prop} {Fin : List Value → List (Addr × Obj) → Prop} (n : Nat) (J : Nat → List Value → List (Addr × Obj) → Prop)
    (turn : ∀ i ys nx, i < n → J i ys nx → ∀ v I oI C oC D m₂ h tk (E' : Value → Shared → Prop), P i v → NsObj oC m₂ → m₂ x = some v → Fr h₀ L h m → News h₀ L h ((I, oI) :: (C, oC) :: (D, lst ys) :: nx) → Off3 I C D nx → ((@Ne Nat I C) ∧ (@Ne Nat I D) ∧ (@Ne Nat C D)) →
      wpAny (model prog w) A (eval elt (compEnvC scope cl C env)) (CompEnd h₀ L m { s with heap := h, toks := tk } I oI C oC D (lst ys) S (fun y nx' => J (i + 1) (ys ++ [y]) nx')) E' { s with heap := h, toks := tk })
    (fin : ∀ ys nx, J n ys nx → Fin ys nx) : ∀ k i ys nx, k + i = n → J i ys nx → CompRest prog w A h₀ L m env elt x scope cl s S P Fin k i ys nx
  | 0, i, ys, nx, e, hj => fin ys nx (by rw [← e, Nat.zero_add]; exact hj)
  | k + 1, i, ys, nx, e, hj => fun v I oI C oC D m₂ h tk E' hv hC hx F N o ne => by
    refine wpAny_mono (turn i ys nx (by omega) hj v I oI C oC D m₂ h tk E' hv hC hx F N o ne) (fun y s' q => compEnd_mono (fun y nw j => comp_inv n J turn fin k (i + 1) (ys ++ [y]) nw (by omega) j) q) fun _ _ e => e
end
section
open LCg LCp
variable {prog : Program} {w : World} {A : Around} {E : Value → Shared → Prop} {s : Shared} {h₀ : Heap} {L : Addr} {m : Str → Option Value} {env : Env}
theorem compP_inv {elt : Expr} {x x₂ : Str} {scope : Scope} {cl : List (Str × Addr)} {S : List (Addr × Obj) → Prop} {P : Nat → Value → Prop} {Fin : List Value → List (Addr × Obj) → Prop} (n : Nat) (J : Nat → List Value → List (Addr × Obj) → Prop)
    (turn : ∀ i ys nx, i < n → J i ys nx → ∀ v, P i v → ∃ (t : Addr) (ot : Obj) (v₁ v₂ : Value) (nt : Nat), v = .ref t ∧ (t, ot) ∈ nx ∧ ot.cls = .type "tuple" ∧ ot.data = .seq #[v₁, v₂] nt ∧
      ∀ I oI C oC D m₂ h tk (E' : Value → Shared → Prop), NsObj oC m₂ → m₂ x = some v₁ → m₂ x₂ = some v₂ → Fr h₀ L h m → News h₀ L h ((I, oI) :: (C, oC) :: (D, lst ys) :: nx) → Off3 I C D nx → ((@Ne Nat I C) ∧ (@Ne Nat I D) ∧ (@Ne Nat C D)) →
      wpAny (model prog w) A (eval elt (compEnvC scope cl C env)) (CompEnd h₀ L m { s with heap := h, toks := tk } I oI C oC D (lst ys) S (fun y nx' => J (i + 1) (ys ++ [y]) nx')) E' { s with heap := h, toks := tk })
    (fin : ∀ ys nx, J n ys nx → Fin ys nx) : ∀ k i ys nx, k + i = n → J i ys nx → CompRestP prog w A h₀ L m env elt x x₂ scope cl s S P Fin k i ys nx
  | 0, i, ys, nx, e, hj => fin ys nx (by rw [← e, Nat.zero_add]; exact hj)
  | k + 1, i, ys, nx, e, hj => fun v hv => by
    obtain ⟨t, ot, v₁, v₂, nt, a, b, c, d, T⟩ := turn i ys nx (by omega) hj v hv
    refine ⟨t, ot, v₁, v₂, nt, a, b, c, d, fun I oI C oC D m₂ h tk E' hC hx hx2 F N o ne => ?_⟩
    refine wpAny_mono (T I oI C oC D m₂ h tk E' hC hx hx2 F N o ne) (fun y s' q => compEnd_mono (fun y nw j => compP_inv n J turn fin k (i + 1) (ys ++ [y]) nw (by omega) j) q) fun _ _ e => e
end

end
/- part U1 -/
section
theorem eqBool_self {prog : Program} {w : World} {A : Around} {E : Value → Shared → Prop} {s : Shared} {v : Value} {Q : Bool → Shared → Prop} (hv : (v == v) = true) (h : Q true s) : wpAny (model prog w) A (eqBool v v) Q E s := by
  unfold eqBool
  refine wpAny_holding ?_
  show wpAny _ _ (if (v == v) = true then _ else _) Q E s
  rw [if_pos hv]
  exact wpAny_bind (wpAny_rule (wpAny_pure h))
theorem tup_same {prog : Program} {w : World} {A : Around} {E : Value → Shared → Prop} {s : Shared} {a b : Addr} {vs : List Value} {na nb : Nat} {Q : Value → Shared → Prop}
    (ha : s.heap.get? a = some { cls := .type "tuple", data := .seq vs.toArray na }) (hb : s.heap.get? b = some { cls := .type "tuple", data := .seq vs.toArray nb }) (hr : ∀ v ∈ vs, (v == v) = true) (hu : A.units < cLine) (h : Q (.bool true) s) :
    wpAny (model prog w) A (compareOp .Eq (.ref a) (.ref b)) Q E s := by
  have hTa : s.TypeIs (.ref a) "tuple" := ⟨_, ha, rfl⟩
  have hTb : s.TypeIs (.ref b) "tuple" := ⟨_, hb, rfl⟩
  refine cmp_ofEq (wpAny_richCompare_same_room (op := .Eq) hTa hTb PySem.F.slot_tuple_eq (wpAny_call_entry PySem.F.slot_tuple_eq hTa PySem.F.entry_tuple_eq ?_ (PySem.F.args_tuple_eq_2 _ _)) hu)
  show wpAny _ _ (isInstance (.ref b) (.type "tuple") >>= _) _ _ s
  refine wpAny_bind (wpAny_isInstance hTb isSubtype_tuple_tuple ?_)
  simp only [Bool.not_true, Bool.false_eq_true, if_false]
  refine wpAny_bind (wpAny_tupleItemsOf ha rfl ?_)
  refine wpAny_bind (wpAny_tupleItemsOf hb rfl ?_)
  refine wpAny_bind ?_
  refine wpAny_forIn_list _ (fun rest r s' => r.1 = none ∧ s' = s ∧ ∃ ws : List Value, rest = List.zip ws ws ∧ ∀ v ∈ ws, v ∈ vs) _ ?_ ?_ _ _ ⟨rfl, rfl, vs, rfl, fun _ h => h⟩
  · rintro ⟨u, v⟩ rest r s' ⟨hr', rfl, ws, hz, hw⟩
    cases ws with
    | nil => simp at hz
    | cons x ws =>
      simp only [List.zip_cons_cons, List.cons.injEq, Prod.mk.injEq] at hz
      obtain ⟨⟨rfl, rfl⟩, rfl⟩ := hz
      refine wpAny_bind (eqBool_self (hr _ (hw _ (.head _))) ?_)
      simp only [Bool.not_true, Bool.false_eq_true, if_false]
      exact wpAny_pure ⟨rfl, rfl, ws, rfl, fun v hv => hw v (.tail _ hv)⟩
  · rintro ⟨r1, r2⟩ s' ⟨hr', rfl, ws, hz, hw⟩
    simp only at hr'
    subst hr'
    refine wpAny_pure ?_
    refine ⟨_, rfl, ?_, ?_⟩
    · intro e; cases e
    · show Q (.bool (vs.toArray.size == vs.toArray.size)) s'
      rw [beq_self_eq_true]; exact h

end
/- part B4 -/
section
theorem my_item {prog w A E s} {value slice : PySem.Expr} {l : Addr} {vs : List Value} {k : Int} {u : Tok} {v : Value} {Q : Value → Shared → Prop}
    (hl : s.heap.IsList l vs.toArray) (h0 : 0 ≤ k) (hhi : k < 2 ^ 63) (hx : vs[k.toNat]? = some v) (h : Q v s)
    (hs : subscripted slice false (.ref l) (.int k u) = operate [.ref l, .int k u] (getItem (.ref l) (.int k u)) := by with_unfolding_all rfl) :
    wpAny (model prog w) A (subscriptTail value slice (.ref l) (.int k u)) Q E s :=
  tail_any hl.typeIs slot_list_getitem.lookup (wpAny_getItem_list hl h0 hhi (by simpa using hx) h) hs
theorem told1 {x ad pf : Int} (h : x = 4294967295) : (x == 4294967295) = castZ x ad pf := by simp [castZ, h]
section
local macro_rules | `(tactic| walk_at "subscriptTail") => `(tactic| (k_here; (with_reducible show wpAny _ _ (subscriptTail _ _ (Value.ref _) (Value.int _ _)) _ _ _); k_dflt (refine' my_item ?k1 ?k2 ?k3 ?k4 ?_ ?k6; (case k1 => is_list); (case k2 => omega); (case k3 => omega); (case k4 => assumption); (case k6 => with_unfolding_all rfl); k_whole)))
local macro_rules | `(tactic| walk_at "call ref") => `(tactic| (k_here; k_dflt (refine' runs_use ?k1 ?k2 ?k3 ?k4 ?k5 ?k6 (cast_runs ?c1 ?c2 ?c3 ?c4 ?c5 ?c6) ?k7 ?k8 ?_; (case k1 => k_asm); (case k2 => k_asm); (case k3 => k_asm); (case k4 => k_asm); (case k5 => k_asm); (case k6 => first | exact rfl | assumption); (case k7 => ktr_room); (case k8 => ktr_units); (case c1 => omega); (case c2 => omega); (case c3 => omega); (case c4 => omega); (case c5 => omega); (case c6 => omega)); intro r' news' h' tk' F' N' hO'; (obtain ⟨er', en'⟩ := hO'); subst er'; subst en'))
theorem told_runs {w : World} {x ad pf : Int} {k t ta tp tm : Tok} {lay ld fl rw rd : Addr} {e2 e3 e4 : Value} {q1 q2 q3 q4 q5 r1 r2 r3 li : Int} {k1 k2 k3 k4 k5 j1 j2 j3 lt : Tok} {vs : List Value} {n : Nat} {i : Int} {news : List (Addr × Obj)}
    (m1 : (lay, instObj 255 ld) ∈ news) (m2 : (ld, layD q1 q2 q3 q4 q5 k1 k2 k3 k4 k5 (.ref fl) e2 e3 e4 li lt) ∈ news)
    (m3 : (fl, listOf vs.toArray n) ∈ news) (hi : 0 ≤ i) (hi' : i < 3) (hv : vs[i.toNat]? = some (.ref rw)) (m4 : (rw, instObj 148 rd) ∈ news) (m5 : (rd, rowD r1 r2 r3 j1 j2 j3 ad pf ta tp tm) ∈ news)
    (h0 : 0 ≤ x) (h1 : x < 4294967296) (a0 : 0 ≤ ad) (a1 : ad < 4294967296) (p0 : 0 ≤ pf) (p1 : pf ≤ 32) :
    Runs w 4 195 [.ref lay, .int x t, .int i k] news (fun r news' => r = .bool (castZ x ad pf) ∧ news = news') := by
  unfold Runs
  k_fill
  intro p loose mean mg mb dp un gd cn cs a ccd cl outer A₀ base h₀ L m s Q E B F X N T hk hd hu hret
  refine wpAny_call ?_
  k_dflt ktr_enter
  k_steps
  · exact hret _ news _ _ (by assumption) (by assumption) ⟨congrArg Value.bool (told1 (by assumption)), rfl⟩
  · exact hret _ news _ _ (by assumption) (by assumption) ⟨rfl, rfl⟩
end

end
/- part B7 -/
section
def forAllZ (x ad pf : Int) : Bool := (!(bitsZ x).any (fun x => x == 0)) || (decide (pf < 31) && (decide (List.take pf.toNat (bitsZ x) = List.take pf.toNat (bitsZ ad)) && !(List.drop pf.toNat (bitsZ x)).any (fun x => x == 0)))
theorem fa1 {x ad pf : Int} (h : ((bitsZ x).any fun x => x == 0) = true) (h2 : pf < 31) (h3 : List.take pf.toNat (bitsZ x) = List.take pf.toNat (bitsZ ad)) : (!(List.drop pf.toNat (bitsZ x)).any fun x => x == 0) = forAllZ x ad pf := by simp only [forAllZ, h, decide_eq_true h2, decide_eq_true h3, Bool.not_true, Bool.false_or, Bool.true_and]
theorem fa2 {x ad pf : Int} (h : ((bitsZ x).any fun x => x == 0) = true) (h2 : pf < 31) (h3 : ¬ List.take pf.toNat (bitsZ x) = List.take pf.toNat (bitsZ ad)) : decide (List.take pf.toNat (bitsZ x) = List.take pf.toNat (bitsZ ad)) = forAllZ x ad pf := by simp only [forAllZ, h, decide_eq_true h2, decide_eq_false h3, Bool.not_true, Bool.false_or, Bool.true_and, Bool.false_and]
theorem fa3 {x ad pf : Int} (h : ((bitsZ x).any fun x => x == 0) = true) (h2 : ¬ pf < 31) : decide (pf < 31) = forAllZ x ad pf := by simp only [forAllZ, h, decide_eq_false h2, Bool.not_true, Bool.false_or, Bool.false_and]
theorem fa4 {x ad pf : Int} (h : ((bitsZ x).any fun x => x == 0) = false) : true = forAllZ x ad pf := by simp only [forAllZ, h, Bool.not_false, Bool.true_or]
section
local macro_rules | `(tactic| walk_at "call ref") => `(tactic| (k_here; k_dflt (refine' runs_use ?k1 ?k2 ?k3 ?k4 ?k5 ?k6 (bits_runs ?c1 ?c2) ?k7 ?k8 ?_; (case k1 => k_asm); (case k2 => k_asm); (case k3 => k_asm); (case k4 => k_asm); (case k5 => k_asm); (case k6 => first | exact rfl | assumption); (case k7 => ktr_room); (case k8 => ktr_units); (case c1 => omega); (case c2 => omega)); intro r' news' h' tk' F' N' hO'; (obtain ⟨l', vs', n', er', hf', hi', hL', en'⟩ := hO'); subst er'; subst en'))
theorem forall_runs {w : World} {x ad pf : Int} {t ta tp : Tok} {fc : Addr} {nf : Nat} {news : List (Addr × Obj)} (hm : (fc, ({ cls := .type "tuple", data := .seq #[.int ad ta, .int pf tp] nf } : Obj)) ∈ news) (h0 : 0 ≤ x) (h1 : x < 4294967296) (a0 : 0 ≤ ad) (a1 : ad < 4294967296) (p0 : 0 ≤ pf) (p1 : pf ≤ 32) :
    Runs w 20 299 [.int x t, .ref fc] news (fun r news' => r = .bool (forAllZ x ad pf) ∧ news = news') := by
  unfold Runs
  k_fill
  intro p loose mean mg mb dp un gd cn cs a ccd cl outer A₀ base h₀ L m s Q E B F X N T hk hd hu hret
  refine wpAny_call ?_
  k_dflt ktr_enter
  k_steps
  · exact hret _ news _ _ (by assumption) (news_sub (by assumption) (by intro p hp; repeat (first | exact hp | refine List.Mem.tail _ ?_))) ⟨congrArg Value.bool (fa1 (by assumption) (by assumption) (by assumption)), rfl⟩
  · exact hret _ news _ _ (by assumption) (news_sub (by assumption) (by intro p hp; repeat (first | exact hp | refine List.Mem.tail _ ?_))) ⟨congrArg Value.bool (fa2 (by assumption) (by assumption) (by assumption)), rfl⟩
  · exact hret _ news _ _ (by assumption) (news_sub (by assumption) (by intro p hp; repeat (first | exact hp | refine List.Mem.tail _ ?_))) ⟨congrArg Value.bool (fa3 (by assumption) (by assumption)), rfl⟩
  · exact hret _ news _ _ (by assumption) (news_sub (by assumption) (by intro p hp; repeat (first | exact hp | refine List.Mem.tail _ ?_))) ⟨congrArg Value.bool (fa4 (by assumption)), rfl⟩
end

end
/- part F1 -/
section
theorem name_lt {a b : Addr} {l : List (Addr × Obj)} (_ : a < b ∧ AllLt b l) : ∃ z, z = b := ⟨_, rfl⟩
theorem name_ilt {a b : Int} (_ : a < b) : ∃ z, z = a := ⟨_, rfl⟩
theorem one_use {w : World} {src l : Addr} {o : Obj} {vs : List Value} {ns : List Int} {n : Nat} {news rest : List (Addr × Obj)} {p : Program} {loose : List Str} {mean : ExcName → Option Value} {mg mb : Str → Option Value} {dp un : Nat} {gd : Option (List Code)} {cn : Str} {cs : Scope} {a : Addr} {ccd : Value} {cl : List (Str × Addr)} {outer : List Env} {A₀ : Around} {base h₀ : Heap} {L : Addr} {m : Str → Option Value} {s : Shared}
    {Q E : Value → Shared → Prop} (B : Below A₀ base outer h₀) (F : Fr h₀ L s.heap m) (X : (hd.heap_39 w.params).In h₀) (N : News h₀ L s.heap news) (T : Top p loose mean mg mb h₀) (hk : cs.kind = .function) (P : Pick src o news rest) (ho : SrcOk o) (hm : (l, listOf vs.toArray n) ∈ rest) (hi : IntsAre vs ns) (hl : 0 < ns.length) (hl' : ns.length < 100) (hd' : dp + 2 < recursionLimit) (hu : un + 8 * 2 < cLine)
    (ret : ∀ x t o' h' tk', x ∈ ns → SrcOk o' → Fr h₀ L h' m → News h₀ L h' ((src, o') :: rest) → Q (.int x t) { s with heap := h', toks := tk' }) :
    wpAny (model PySem.Challenge.rw_on0346_01.row.prog w) (ktrTop dp un gd cn cs L a ccd cl outer) (call (.ref 280) [.ref src, .ref l]) Q E s :=
  runs_use B F X (P.news N) T hk (one_runs P.off ho hm hi hl hl') hd' hu fun r news' h' tk' F' N' ⟨x, t, o', e, h1, h2, en⟩ => by
    subst e en; exact ret x t o' h' tk' h1 h2 F' N'
theorem pow32 : (2 : Int) ^ Int.toNat 32 = 4294967296 := by decide
theorem take32_use {w : World} {src : Addr} {o : Obj} {tt : Tok} {news rest : List (Addr × Obj)} {p : Program} {loose : List Str} {mean : ExcName → Option Value} {mg mb : Str → Option Value} {dp un : Nat} {gd : Option (List Code)} {cn : Str} {cs : Scope} {a : Addr} {ccd : Value} {cl : List (Str × Addr)} {outer : List Env} {A₀ : Around} {base h₀ : Heap} {L : Addr} {m : Str → Option Value} {s : Shared}
    {Q E : Value → Shared → Prop} (B : Below A₀ base outer h₀) (F : Fr h₀ L s.heap m) (X : (hd.heap_39 w.params).In h₀) (N : News h₀ L s.heap news) (T : Top p loose mean mg mb h₀) (hk : cs.kind = .function) (P : Pick src o news rest) (ho : SrcOk o) (hd' : dp + 1 < recursionLimit) (hu : un + 8 * 1 < cLine)
    (ret : ∀ x t o' h' tk', 0 ≤ x → x < 4294967296 → SrcOk o' → Fr h₀ L h' m → News h₀ L h' ((src, o') :: rest) → Q (.int x t) { s with heap := h', toks := tk' }) :
    wpAny (model PySem.Challenge.rw_on0346_01.row.prog w) (ktrTop dp un gd cn cs L a ccd cl outer) (call (.ref 273) [.ref src, .int (2 ^ Int.toNat 32) tt]) Q E s :=
  take_use B F X N T hk P ho (by rw [pow32]; decide) (by rw [pow32]; decide) hd' hu (by rw [pow32]; exact ret)
/-- between the turns that draw the faces -/
def FacesJ (src lf : Addr) (rest : List (Addr × Obj)) (i : Nat) (m₁ : Str → Option Value) (nx : List (Addr × Obj)) : Prop :=
  ∃ fs vs n o' fx, m₁ (Str.ofString "found") = some (.ref lf) ∧ m₁ (Str.ofString "source") = some (.ref src) ∧ nx = (src, o') :: (lf, listOf (List.toArray vs) n) :: (fx ++ rest) ∧ SrcOk o' ∧ FacesAre fx vs fs ∧ fs.length = i ∧ FacesOk fs ∧ ∀ q ∈ fx, q.1 ≠ src ∧ q.1 ≠ lf ∧ ∀ p ∈ rest, p.1 ≠ q.1
theorem faces_end {g h' : Heap} {L src lf D : Addr} {m' : Str → Option Value} {rest own T fx : List (Addr × Obj)} {vs : List Value} {n i tk k0 : Nat} {fs : List (Int × Int)} {a p : Int} {ta tp : Tok} {o' o'' : Obj} {j1 j2 : Addr × Obj} {s₁ : Shared}
    (F : Fr g L h' m') (N : News g L h' ((D, tupO a p ta tp k0) :: (src, o'') :: j1 :: j2 :: (lf, listOf (vs.toArray.push (.ref D)) (n + 1)) :: T)) (hT : T = fx ++ (rest ++ own))
    (hm1 : m' (Str.ofString "found") = some (.ref lf)) (hm2 : m' (Str.ofString "source") = some (.ref src)) (ho : SrcOk o'') (hfa : FacesAre fx vs fs) (hfl : fs.length = i) (hfo : FacesOk fs) (ha : 0 ≤ a ∧ a < 4294967296) (hp : 0 ≤ p ∧ p ≤ 32)
    (hfx : ∀ q ∈ fx, q.1 ≠ src ∧ q.1 ≠ lf ∧ ∀ p ∈ rest, p.1 ≠ q.1) (hoff : OwnOff own (List.map (fun x => x.1) ((src, o') :: (lf, listOf vs.toArray n) :: (fx ++ rest)))) (h1 : src < D) (h2 : lf < D) (h3 : AllLt D T) :
    InvEndG g L (FacesJ src lf rest (i + 1)) own s₁ { s₁ with heap := h', toks := tk } := by
  have h3' := allLt_ne h3
  subst hT
  have hDo : ∀ p ∈ own, p.1 ≠ D := fun p hp => h3' p (by simp [hp])
  refine ⟨h', tk, m', _, (src, o'') :: (lf, listOf (List.toArray (vs ++ [.ref D])) (n + 1)) :: (((D, tupO a p ta tp k0) :: fx) ++ rest), rfl, F, N, ?_, ?_, ?_, fs ++ [(a, p)], vs ++ [.ref D], n + 1, o'', (D, tupO a p ta tp k0) :: fx, hm1, hm2, rfl, ho, (hfa.mono fun _ h => .tail _ h).snoc (.head _), by simp [hfl], ?_, ?_⟩
  · have e : listOf (List.toArray (vs ++ [.ref D])) (n + 1) = listOf (vs.toArray.push (.ref D)) (n + 1) := by simp
    rw [e]
    intro q hq
    simp only [List.cons_append, List.mem_cons, List.mem_append] at hq ⊢
    rcases hq with h | h | h | h | h
    · exact .inr (.inl h)
    · exact .inr (.inr (.inr (.inr (.inl h))))
    · exact .inl h
    · exact .inr (.inr (.inr (.inr (.inr (.inl h)))))
    · exact .inr (.inr (.inr (.inr (.inr (.inr (.inl h))))))
  · intro q hq
    simp only [List.mem_cons, List.mem_append]
    exact .inr (.inr (.inr (.inr (.inr (.inr (.inr hq))))))
  · intro q hq b hb
    simp only [List.map_cons, List.map_append, List.cons_append, List.mem_cons, List.mem_append] at hb
    rcases hb with rfl | rfl | rfl | hb | hb
    · exact hoff q hq _ (by simp)
    · exact hoff q hq _ (by simp)
    · exact hDo q hq
    · exact hoff q hq _ (by simp only [List.map_cons, List.map_append, List.mem_cons, List.mem_append]; exact .inr (.inr (.inl hb)))
    · exact hoff q hq _ (by simp only [List.map_cons, List.map_append, List.mem_cons, List.mem_append]; exact .inr (.inr (.inr hb)))
  · intro f hf
    rcases List.mem_append.mp hf with hf | hf
    · exact hfo f hf
    · rw [List.mem_singleton.mp hf]; exact ⟨ha.1, ha.2, hp.1, hp.2⟩
  · intro q hq
    rcases List.mem_cons.mp hq with rfl | hq
    · exact ⟨Nat.ne_of_gt h1, Nat.ne_of_gt h2, fun p hp => h3' p (by simp [hp])⟩
    · exact hfx q hq
section
local macro_rules | `(tactic| k_all) => `(tactic| first | exact allLt_ne (by assumption) | exact allLt_ne (And.right (by assumption)) | exact allLt_ne (And.right (And.right (by assumption))) | exact allLt_ne (And.right (And.right (And.right (by assumption)))) | exact allLt_ne (And.right (And.right (And.right (And.right (by assumption))))) | exact allLt_ne (And.right (And.right (And.right (And.right (And.right (by assumption)))))) | exact allLt_ne (And.right (And.right (And.right (And.right (And.right (And.right (by assumption))))))))
local macro_rules | `(tactic| walk_at "call ref") => `(tactic| (k_here; k_dflt (refine' take_use ?k1 ?k2 ?k3 ?k4 ?k5 ?k6 ?k7 ?k8 ?k9 ?k10 ?k11 ?k12 ?_; (case k1 => k_asm); (case k2 => k_asm); (case k3 => k_asm); (case k4 => k_asm); (case k5 => k_asm); (case k6 => first | exact rfl | assumption); (case k7 => k_mem); (case k8 => assumption); (case k9 => omega); (case k10 => omega); (case k11 => ktr_room); (case k12 => ktr_units); intro x' t' o' h' tk' hx0' hx1' ho' F' N')))
local macro_rules | `(tactic| walk_at "call ref") => `(tactic| (k_here; k_dflt (refine' one_use ?k1 ?k2 ?k3 ?k4 ?k5 ?k6 ?k7 ?k8 ?k9 ?k10 ?k11 ?k12 ?k13 ?k14 ?_; (case k1 => k_asm); (case k2 => k_asm); (case k3 => k_asm); (case k4 => k_asm); (case k5 => k_asm); (case k6 => first | exact rfl | assumption); (case k7 => k_mem); (case k8 => assumption); (case k9 => k_mem); (case k10 => l_ints); (case k11 => exact Nat.le_of_ble_eq_true rfl); (case k12 => exact Nat.le_of_ble_eq_true rfl); (case k13 => ktr_room); (case k14 => ktr_units); intro x' t' o' h' tk' hx' ho' F' N'); (try simp only [List.mem_cons, List.not_mem_nil, or_false] at hx'); (first | (have hy' : 0 ≤ x' ∧ x' ≤ 32 := by omega) | (have hy' : 0 ≤ x' ∧ x' < 4294967296 := by omega)); clear hx'))
local macro_rules | `(tactic| walk_at "call ref") => `(tactic| (k_here; k_dflt (refine' take32_use ?k1 ?k2 ?k3 ?k4 ?k5 ?k6 ?k7 ?k8 ?k11 ?k12 ?_; (case k1 => k_asm); (case k2 => k_asm); (case k3 => k_asm); (case k4 => k_asm); (case k5 => k_asm); (case k6 => first | exact rfl | assumption); (case k7 => k_mem); (case k8 => assumption); (case k11 => ktr_room); (case k12 => ktr_units); intro x' t' o' h' tk' hx0' hx1' ho' F' N')))
local macro_rules | `(tactic| walk_at "exec For Name Call cons nil") => `(tactic| (k_dflt (refine Stop.out ?_)))
local macro_rules | `(tactic| walk_at "call type:range") => `(tactic| (k_dflt (refine Stop.out ?_)))
theorem faces_runs {w : World} {src : Addr} {o : Obj} {rest : List (Addr × Obj)} (hr : ∀ p ∈ rest, p.1 ≠ src) (ho : SrcOk o) :
    Runs w 6 306 [.ref src] ((src, o) :: rest) (fun r news' => ∃ lf fs vs n o' fx, r = .ref lf ∧ news' = (src, o') :: (lf, listOf (List.toArray vs) n) :: (fx ++ rest) ∧ SrcOk o' ∧ FacesAre fx vs fs ∧ 1 ≤ fs.length ∧ fs.length ≤ 3 ∧ FacesOk fs ∧ src ≠ lf ∧ (∀ p ∈ rest, p.1 ≠ lf) ∧ ∀ q ∈ fx, q.1 ≠ src ∧ q.1 ≠ lf ∧ ∀ p ∈ rest, p.1 ≠ q.1) := by
  unfold Runs
  k_fill
  intro p loose mean mg mb dp un gd cn cs a ccd cl outer A₀ base h₀ L m s Q E B F X N T hk hd hu hret
  refine wpAny_call ?_
  k_dflt ktr_enter
  k_steps
  refine Stop.on ?_
  (with_unfolding_all refine' For_invVF (by assumption) ?k1 ?k2 ?_; (case k1 => exact rfl); (case k2 => exact rfl); k_whole)
  k_steps
  refine Stop.on ?_
  refine range1_rows (by assumption) (by assumption) ?_
  intro h1 tk1 t1 u1 v1 hR F1 N1 hk1
  rename src < _ ∧ AllLt _ rest => hlt
  rename (_ : Int) < 3 => hx1
  rename 0 ≤ (_ : Int) => hx0
  obtain ⟨lf, elf⟩ := name_lt hlt
  subst elf
  obtain ⟨x, ex⟩ := name_ilt hx1
  subst ex
  refine range_inv (n := (1 + x).toNat) (FacesJ src lf rest) rfl hR (small_one (by decide) (by decide) (by omega) (by omega)) (by rw [rangeSize_nat]; congr 1; omega) F1 N1 ⟨[], [], 0, _, [], rfl, rfl, rfl, by assumption, ⟨rfl, fun i v e => by simp at e⟩, rfl, (fun f hf => nomatch hf), (fun q hq => nomatch hq)⟩ ?_ ?_
  · rintro i t m₁ nx h tk own hi hoff ⟨fs, vs, n, o', fx, m1, m2, rfl, ho', hfa, hfl, hfo, hfx⟩ F₁ N₁
    rw [map_knows m1, map_knows m2] at F₁
    have hz : (List.toArray vs).size ≤ sizeLine := by rw [List.size_toArray, hfa.1, hfl, sizeLine_eq]; omega
    obtain ⟨T, hT⟩ : ∃ T, T = fx ++ (rest ++ own) := ⟨_, rfl⟩
    have hTs : ∀ p ∈ T, p.1 ≠ src := by
      subst hT; intro p hp
      rcases List.mem_append.mp hp with hp | hp
      · exact (hfx p hp).1
      · rcases List.mem_append.mp hp with hp | hp
        · exact hr p hp
        · exact hoff p hp src (by simp)
    have hTl : ∀ p ∈ T, p.1 ≠ lf := by
      subst hT; intro p hp
      rcases List.mem_append.mp hp with hp | hp
      · exact (hfx p hp).2.1
      · rcases List.mem_append.mp hp with hp | hp
        · exact allLt_ne hlt.2 p hp
        · exact hoff p hp lf (by simp)
    simp only [List.cons_append, List.append_assoc, ← hT] at N₁
    k_steps
    rename src < _ ∧ _ < _ ∧ _ < _ ∧ lf < _ ∧ AllLt _ T => hD
    exact faces_end (by assumption) (by assumption) hT rfl rfl (by assumption) hfa hfl hfo (by assumption) (by assumption) hfx hoff hD.1 hD.2.2.2.1 hD.2.2.2.2
  · rintro m₁ nx h tk ⟨fs, vs, n, o', fx, m1, m2, rfl, ho', hfa, hfl, hfo, hfx⟩ F₁ N₁
    rw [map_knows m1, map_knows m2] at F₁
    k_steps
    exact hret _ _ _ _ (by assumption) (by assumption) ⟨lf, fs, vs, n, o', fx, rfl, rfl, ho', hfa, by omega, by omega, hfo, Nat.ne_of_lt hlt.1, allLt_ne hlt.2, hfx⟩
end

end
/- part A1 -/
section
local macro_rules | `(tactic| walk_at "no such construct") => `(tactic| fail)
theorem drop_cons {vs : List Value} {k : Nat} {a : Itm} {r : List Itm} (h : a :: r = (vs.drop k).map Itm.val) : ∃ v, vs[k]? = some v ∧ a = .val v ∧ r = (vs.drop (k + 1)).map Itm.val := by
  by_cases hk : k < vs.length
  · rw [List.drop_eq_getElem_cons hk, List.map_cons] at h
    obtain ⟨h1, h2⟩ := List.cons.inj h
    exact ⟨_, List.getElem?_eq_getElem hk, h1, h2⟩
  · rw [List.drop_of_length_le (by omega)] at h; cases h
theorem pad_len {x p c : Int} (h0 : 0 ≤ p) (h1 : p ≤ 32) : (List.take p.toNat (bitsZ x) ++ (List.replicate (32 - p).toNat [c]).flatten).length = 32 := by
  rw [List.length_append, List.length_take, bitsZ_length, List.length_flatten]
  simp
  omega
theorem pad_mem {x p c : Int} (hc : 0 ≤ c ∧ c ≤ 1) : ∀ b ∈ List.take p.toNat (bitsZ x) ++ (List.replicate (32 - p).toNat [c]).flatten, 0 ≤ b ∧ b ≤ 1 := by
  intro b hb
  rcases List.mem_append.mp hb with hb | hb
  · exact bitsZ_mem (List.mem_of_mem_take hb)
  · obtain ⟨l, hl, hb⟩ := List.mem_flatten.mp hb
    rw [List.eq_of_mem_replicate hl, List.mem_singleton] at hb
    subst hb; exact hc
section
local macro_rules | `(tactic| k_all) => `(tactic| first | exact allLt_ne (by assumption) | exact allLt_ne (And.right (by assumption)) | exact allLt_ne (And.right (And.right (by assumption))) | exact allLt_ne (And.right (And.right (And.right (by assumption)))) | exact allLt_ne (And.right (And.right (And.right (And.right (by assumption))))) | exact allLt_ne (And.right (And.right (And.right (And.right (And.right (by assumption)))))) | exact allLt_ne (And.right (And.right (And.right (And.right (And.right (And.right (by assumption))))))))
local macro_rules | `(tactic| walk_at "call ref") => `(tactic| (k_here; k_dflt (refine' take32_use ?k1 ?k2 ?k3 ?k4 ?k5 ?k6 ?k7 ?k8 ?k11 ?k12 ?_; (case k1 => k_asm); (case k2 => k_asm); (case k3 => k_asm); (case k4 => k_asm); (case k5 => k_asm); (case k6 => first | exact rfl | assumption); (case k7 => k_mem); (case k8 => assumption); (case k11 => ktr_room); (case k12 => ktr_units); intro x' t' o' h' tk' hx0' hx1' ho' F' N')))
local macro_rules | `(tactic| walk_at "call ref") => `(tactic| (k_here; k_dflt (refine' runs_use ?k1 ?k2 ?k3 ?k4 ?k5 ?k6 (bits_runs ?c1 ?c2) ?k7 ?k8 ?_; (case k1 => k_asm); (case k2 => k_asm); (case k3 => k_asm); (case k4 => k_asm); (case k5 => k_asm); (case k6 => first | exact rfl | assumption); (case k7 => ktr_room); (case k8 => ktr_units); (case c1 => omega); (case c2 => omega)); intro r' news' h' tk' F' N' hO'; (obtain ⟨l', vs', n', er', hf', hi', hL', en'⟩ := hO'); subst er'; subst en'))
local macro_rules | `(tactic| walk_at "exec For Tuple Name cons nil") => `(tactic| (k_dflt (refine Stop.out ?_)))
local macro_rules | `(tactic| walk_at "pyIter ref") => `(tactic| (k_dflt (refine Stop.out ?_)))
local macro_rules | `(tactic| walk_at "call ref") => `(tactic| (k_here; k_dflt (refine' runs_use ?k1 ?k2 ?k3 ?k4 ?k5 ?k6 (number_runs ?c1 ?c2 ?c3 ?c4) ?k7 ?k8 ?_; (case k1 => k_asm); (case k2 => k_asm); (case k3 => k_asm); (case k4 => k_asm); (case k5 => k_asm); (case k6 => first | exact rfl | assumption); (case k7 => ktr_room); (case k8 => ktr_units); (case c1 => k_mem); (case c2 => l_ints); (case c3 => exact pad_len (by assumption) (by assumption)); (case c4 => exact pad_mem (by decide))); intro r' news' h' tk' F' N' hO'; (obtain ⟨y', t', er', hy0', hy1', en'⟩ := hO'); subst er'; subst en'))
/-- between the turns that gather what is asked -/
def AskedJ (src lf : Addr) (o' : Obj) (rest : List (Addr × Obj)) (vs : List Value) (I : Addr) (xs : List Itm) (m₁ : Str → Option Value) (nx : List (Addr × Obj)) : Prop :=
  ∃ fd ws ns n new k, m₁ (Str.ofString "found") = some (.ref fd) ∧ nx = (fd, listOf (List.toArray ws) n) :: new ∧ (∀ p ∈ (src, o') :: rest, p ∈ new) ∧ (∀ p ∈ nx, p.1 ≠ I) ∧ (∀ p ∈ (src, o') :: rest, p.1 ≠ fd) ∧ IntsAre ws ns ∧ ns.length ≤ 3 + 5 * k ∧ (∀ x ∈ ns, 0 ≤ x ∧ x < 4294967296) ∧ xs = (vs.drop k).map Itm.val ∧ k ≤ 3
theorem xor1 {x : Int} (h0 : 0 ≤ x) (h1 : x < 4294967296) : 0 ≤ Builtin.bitXor x 1 ∧ Builtin.bitXor x 1 < 4294967296 := by
  rw [bitXor_and, bitAnd_m1]; omega
theorem asked_end {g h' : Heap} {L src lf D I : Addr} {m' : Str → Option Value} {o' it o2 : Obj} {rest new all : List (Addr × Obj)} {vs ws' : List Value} {ns' : List Int} {k n0 tk : Nat} {s₁ : Shared}
    (F : Fr g L h' m') (N : News g L h' all) (hf : m' (Str.ofString "found") = some (.ref D)) (hD : (D, listOf (List.toArray ws') n0) ∈ all) (hi : IntsAre ws' ns') (hIt : (I, it) ∈ all) (hnew : ∀ p ∈ new, p ∈ all) (hm : (lf, o2) ∈ rest)
    (hsub : ∀ p ∈ (src, o') :: rest, p ∈ new) (hnI : ∀ p ∈ new, p.1 ≠ I) (hDI : I < D) (hDn : AllLt D new) (hl : ns'.length ≤ 3 + 5 * (k + 1)) (hb : ∀ x ∈ ns', 0 ≤ x ∧ x < 4294967296) (hk : k + 1 ≤ 3) :
    UnrEndW g L s₁ [(I, it)] (fun m' n' => SubL [(lf, o2)] n' ∧ AskedJ src lf o' rest vs I (List.map Itm.val (List.drop (k + 1) vs)) m' n') { s₁ with heap := h', toks := tk } := by
  have hn := allLt_ne hDn
  refine ⟨h', tk, m', (D, listOf (List.toArray ws') n0) :: new, rfl, F, news_sub N ?_, ?_, ⟨.tail _ (hsub _ (.tail _ hm)), trivial⟩, D, ws', ns', n0, new, k + 1, hf, rfl, hsub, ?_, fun p hp => hn p (hsub p hp), hi, hl, hb, rfl, hk⟩
  · intro p hp
    rcases List.mem_cons.mp hp with rfl | hp
    · exact hIt
    · rcases List.mem_cons.mp hp with rfl | hp
      · exact hD
      · exact hnew p hp
  · intro p hp q hq
    rw [List.mem_singleton.mp hq]
    rcases List.mem_cons.mp hp with rfl | hp
    · exact Nat.ne_of_gt hDI
    · exact hnI p hp
  · intro p hp
    rcases List.mem_cons.mp hp with rfl | hp
    · exact Nat.ne_of_gt hDI
    · exact hnI p hp
theorem asked_bnd {fa x y : Int} {ns : List Int} (h : ∀ x ∈ ns, 0 ≤ x ∧ x < 4294967296) (f1 : 0 ≤ fa) (f2 : fa < 4294967296) (x0 : 0 ≤ x) (x1 : x < 4294967296) (y0 : 0 ≤ y) (y1 : y < 4294967296) :
    ∀ v ∈ ns ++ [fa, Builtin.bitXor fa 1, x, if x - 1 > 0 then x - 1 else 0, y], 0 ≤ v ∧ v < 4294967296 := by
  intro v hv
  have := xor1 f1 f2
  simp only [List.mem_append, List.mem_cons, List.not_mem_nil, or_false] at hv
  rcases hv with hv | rfl | rfl | rfl | rfl | rfl
  · exact h v hv
  · exact ⟨f1, f2⟩
  · exact this
  · exact ⟨x0, x1⟩
  · split <;> omega
  · exact ⟨y0, y1⟩
theorem asked_runs {w : World} {src lf : Addr} {o : Obj} {vs : List Value} {fs : List (Int × Int)} {nf : Nat} {rest : List (Addr × Obj)} (hr : ∀ p ∈ rest, p.1 ≠ src) (ho : SrcOk o) (hm : (lf, listOf vs.toArray nf) ∈ rest) (hfa : FacesAre rest vs fs) (hfo : FacesOk fs) (hfl : fs.length ≤ 3) :
    Runs w 6 313 [.ref src, .ref lf] ((src, o) :: rest) (fun r news' => ∃ l ws ns n o', r = .ref l ∧ news' = (l, listOf (List.toArray ws) n) :: (src, o') :: rest ∧ SrcOk o' ∧ (∀ p ∈ (src, o') :: rest, p.1 ≠ l) ∧ IntsAre ws ns ∧ ns.length ≤ 18 ∧ ∀ x ∈ ns, 0 ≤ x ∧ x < 4294967296) := by
  unfold Runs
  k_fill
  intro p loose mean mg mb dp un gd cn cs a ccd cl outer A₀ base h₀ L m s Q E B F X N T hk hd hu hret
  refine wpAny_call ?_
  k_dflt ktr_enter
  k_steps
  refine Stop.on ?_
  (with_unfolding_all refine' For_turns (by assumption) ?_)
  k_steps
  refine Stop.on ?_
  rename src < _ ∧ AllLt _ rest => hlt
  obtain ⟨fd, efd⟩ := name_lt hlt
  subst efd
  rename SrcOk _ => ho'
  rename 0 ≤ (_ : Int) => hx0
  rename (_ : Int) < 4294967296 => hx1
  refine iter_listTurns (vs := vs) (n := nf) rfl (by assumption) (by assumption) (.tail _ (.tail _ hm)) rfl rfl ?_
  intro I hI
  refine items_inv (AskedJ src lf _ rest vs I) ?_ ?_ _ _ _ ⟨fd, _, _, _, _, 0, rfl, rfl, fun p hp => hp, fun p hp => Nat.ne_of_lt (hI p hp), List.forall_mem_cons.mpr ⟨Nat.ne_of_lt hlt.1, allLt_ne hlt.2⟩, .cons _ _ (.cons _ _ (.cons _ _ .nil)), by simp, ?_, rfl, by omega⟩
  · rintro a r m₁ nx v h tk ⟨fd, ws, ns, n, new, k, m1, rfl, hsub, hnI, hfd, hi, hnl, hnb, hxs, hk⟩ ha F₁
    intro it hit N₁
    obtain ⟨v0, hv0, rfl, rfl⟩ := drop_cons hxs
    have hv : v = v0 := ha
    subst hv
    obtain ⟨⟨fa, fp⟩, fc, ta, tp, nn, hf, rfl, hfm⟩ := hfa.2 k _ hv0
    obtain ⟨f1, f2, f3, f4⟩ := hfo _ (List.mem_of_getElem? hf)
    have hfm' := hsub _ (.tail _ hfm)
    dsimp only at f1 f2 f3 f4 hfm'
    rw [map_knows m1] at F₁
    simp only [List.cons_append, List.nil_append] at N₁
    k_steps
    have hkl : k < vs.length := (List.getElem?_eq_some_iff.mp hv0).1
    have hvl := hfa.1
    exact asked_end (by assumption) (by assumption) (by rfl) (by k_mem) (by assumption) (by k_mem) (by intro p hp; repeat (first | exact hp | refine List.Mem.tail _ ?_)) hm hsub (fun p hp => hnI p (.tail _ hp)) (ltN (by omega)) (by first | exact And.right (by assumption) | exact And.right (And.right (by assumption)) | exact And.right (And.right (And.right (by assumption))) | exact And.right (And.right (And.right (And.right (by assumption)))) | exact And.right (And.right (And.right (And.right (And.right (by assumption))))) | exact And.right (And.right (And.right (And.right (And.right (And.right (by assumption)))))) | exact And.right (And.right (And.right (And.right (And.right (And.right (And.right (by assumption))))))) | exact And.right (And.right (And.right (And.right (And.right (And.right (And.right (And.right (by assumption)))))))) | exact And.right (And.right (And.right (And.right (And.right (And.right (And.right (And.right (And.right (by assumption))))))))) | exact And.right (And.right (And.right (And.right (And.right (And.right (And.right (And.right (And.right (And.right (by assumption)))))))))) | exact And.right (And.right (And.right (And.right (And.right (And.right (And.right (And.right (And.right (And.right (And.right (by assumption))))))))))) | exact And.right (And.right (And.right (And.right (And.right (And.right (And.right (And.right (And.right (And.right (And.right (And.right (by assumption)))))))))))) | exact And.right (And.right (And.right (And.right (And.right (And.right (And.right (And.right (And.right (And.right (And.right (And.right (And.right (by assumption))))))))))))) | exact And.right (And.right (And.right (And.right (And.right (And.right (And.right (And.right (And.right (And.right (And.right (And.right (And.right (And.right (by assumption)))))))))))))) | exact And.right (And.right (And.right (And.right (And.right (And.right (And.right (And.right (And.right (And.right (And.right (And.right (And.right (And.right (And.right (by assumption)))))))))))))))) (by rw [List.length_append]; simp only [List.length_cons, List.length_nil]; omega) (asked_bnd hnb f1 f2 (by assumption) (by assumption) (by assumption) (by assumption)) (by omega)
  · rintro m₁ nx h tk ⟨fd, ws, ns, n, new, k, m1, rfl, hsub, hnI, hfd, hi, hnl, hnb, hxs, hk⟩ F₁ N₁
    rw [map_knows m1] at F₁
    k_steps
    exact hret _ _ _ _ (by assumption) (news_sub (by assumption) (fun p hp => by rcases List.mem_cons.mp hp with rfl | hp; exact .head _; exact .tail _ (hsub p hp))) ⟨fd, ws, ns, n, _, rfl, rfl, ho', hfd, hi, by omega, hnb⟩
  · rw [pow32]; intro v hv
    simp only [List.mem_cons, List.not_mem_nil, or_false] at hv
    rcases hv with rfl | rfl | rfl
    · decide
    · decide
    · exact ⟨hx0, hx1⟩
end

end
/- part D1 -/
section
theorem head_sub {h₀ h : Heap} {L l src : Addr} {o1 o' : Obj} {all rest : List (Addr × Obj)} (N : News h₀ L h ((l, o1) :: all)) (hs : (src, o') ∈ all) (hr : ∀ p ∈ rest, p ∈ all) : News h₀ L h ((l, o1) :: (src, o') :: rest) := by
  refine news_sub N fun p hp => ?_
  rcases List.mem_cons.mp hp with rfl | hp
  · exact .head _
  · rcases List.mem_cons.mp hp with rfl | hp
    · exact .tail _ hs
    · exact .tail _ (hr p hp)
theorem ones_in {k : Nat} : ∀ n ∈ (List.replicate k [(1 : Int)]).flatten, 0 ≤ n ∧ n < 256 := by
  intro b hb
  obtain ⟨l, hl, hb⟩ := List.mem_flatten.mp hb
  rw [List.eq_of_mem_replicate hl, List.mem_singleton] at hb
  subst hb; decide
theorem ones_len {x : Int} {v : Value} (h : x < 3) : ((List.replicate (4 * x).toNat [v]).flatten).length ≤ sizeLine := by
  rw [List.length_flatten, sizeLine_eq]; simp; omega
section
local macro_rules | `(tactic| k_all) => `(tactic| first | exact allLt_ne (by assumption) | exact allLt_ne (And.right (by assumption)) | exact allLt_ne (And.right (And.right (by assumption))) | exact allLt_ne (And.right (And.right (And.right (by assumption)))) | exact allLt_ne (And.right (And.right (And.right (And.right (by assumption))))) | exact allLt_ne (And.right (And.right (And.right (And.right (And.right (by assumption)))))) | exact allLt_ne (And.right (And.right (And.right (And.right (And.right (And.right (by assumption))))))))
local macro_rules | `(tactic| walk_at "call ref") => `(tactic| (k_here; k_dflt (refine' take_use ?k1 ?k2 ?k3 ?k4 ?k5 ?k6 ?k7 ?k8 ?k9 ?k10 ?k11 ?k12 ?_; (case k1 => k_asm); (case k2 => k_asm); (case k3 => k_asm); (case k4 => k_asm); (case k5 => k_asm); (case k6 => first | exact rfl | assumption); (case k7 => k_mem); (case k8 => assumption); (case k9 => omega); (case k10 => omega); (case k11 => ktr_room); (case k12 => ktr_units); intro x' t' o' h' tk' hx0' hx1' ho' F' N')))
local macro_rules | `(tactic| walk_at "call ref") => `(tactic| (k_here; k_dflt (refine' take32_use ?k1 ?k2 ?k3 ?k4 ?k5 ?k6 ?k7 ?k8 ?k11 ?k12 ?_; (case k1 => k_asm); (case k2 => k_asm); (case k3 => k_asm); (case k4 => k_asm); (case k5 => k_asm); (case k6 => first | exact rfl | assumption); (case k7 => k_mem); (case k8 => assumption); (case k11 => ktr_room); (case k12 => ktr_units); intro x' t' o' h' tk' hx0' hx1' ho' F' N')))
local macro_rules | `(tactic| walk_at "call ref") => `(tactic| (k_here; k_dflt (refine' one_use ?k1 ?k2 ?k3 ?k4 ?k5 ?k6 ?k7 ?k8 ?k9 ?k10 ?k11 ?k12 ?k13 ?k14 ?_; (case k1 => k_asm); (case k2 => k_asm); (case k3 => k_asm); (case k4 => k_asm); (case k5 => k_asm); (case k6 => first | exact rfl | assumption); (case k7 => k_mem); (case k8 => assumption); (case k9 => k_mem); (case k10 => l_ints); (case k11 => exact Nat.le_of_ble_eq_true rfl); (case k12 => exact Nat.le_of_ble_eq_true rfl); (case k13 => ktr_room); (case k14 => ktr_units); intro x' t' o' h' tk' hx' ho' F' N'); (clear hx')))
local macro_rules | `(tactic| walk_at "call type:bytes") => `(tactic| (k_here; (with_reducible show wpAny _ _ (call (Value.type _) [Value.ref _]) _ _ _); k_dflt (refine' bytes_K ?F ?N ?l ?i ?r ?z ?h ?_; (case F => k_asm); (case N => k_asm); (case l => is_list); (case i => l_ints); (case r => exact ones_in); (case z => exact ones_len (by omega)); (case h => with_unfolding_all rfl); k_whole); intro h' t' k' F' N'))
theorem head_runs {w : World} {src : Addr} {o : Obj} {rest : List (Addr × Obj)} (hr : ∀ p ∈ rest, p.1 ≠ src) (ho : SrcOk o) :
    Runs w 6 320 [.ref src] ((src, o) :: rest) (fun r news' => ∃ l o' n a0 t0 a1 t1 a2 t2 a3 t3 a4 t4 a5 t5 b6 b7 a8 t8 bs t9, r = .ref l ∧ news' = (l, listOf #[.int a0 t0, .int a1 t1, .int a2 t2, .int a3 t3, .int a4 t4, .int a5 t5, .bool b6, .bool b7, .int a8 t8, .bytes bs t9] n) :: (src, o') :: rest ∧ SrcOk o' ∧ ∀ p ∈ (src, o') :: rest, p.1 ≠ l) := by
  unfold Runs
  k_fill
  intro p loose mean mg mb dp un gd cn cs a ccd cl outer A₀ base h₀ L m s Q E B F X N T hk hd hu hret
  refine wpAny_call ?_
  k_dflt ktr_enter
  k_steps
  rename News _ _ _ _ => NN
  refine hret _ _ _ _ (by assumption) (head_sub NN ?_ ?_) ⟨_, _, _, _, _, _, _, _, _, _, _, _, _, _, _, _, _, _, _, _, _, rfl, rfl, by assumption, ?_⟩
  · repeat (first | exact List.Mem.head _ | refine List.Mem.tail _ ?_)
  · intro p hp; repeat (first | exact hp | refine List.Mem.tail _ ?_)
  · refine List.forall_mem_cons.mpr ⟨neN (by dsimp only; omega), allLt_ne (by first | exact And.right (by assumption) | exact And.right (And.right (by assumption)) | exact And.right (And.right (And.right (by assumption))) | exact And.right (And.right (And.right (And.right (by assumption)))) | exact And.right (And.right (And.right (And.right (And.right (by assumption))))) | exact And.right (And.right (And.right (And.right (And.right (And.right (by assumption)))))) | exact And.right (And.right (And.right (And.right (And.right (And.right (And.right (by assumption))))))) | exact And.right (And.right (And.right (And.right (And.right (And.right (And.right (And.right (by assumption)))))))) | exact And.right (And.right (And.right (And.right (And.right (And.right (And.right (And.right (And.right (by assumption))))))))) | exact And.right (And.right (And.right (And.right (And.right (And.right (And.right (And.right (And.right (And.right (by assumption)))))))))) | exact And.right (And.right (And.right (And.right (And.right (And.right (And.right (And.right (And.right (And.right (And.right (by assumption))))))))))) | exact And.right (And.right (And.right (And.right (And.right (And.right (And.right (And.right (And.right (And.right (And.right (And.right (by assumption)))))))))))) | exact And.right (And.right (And.right (And.right (And.right (And.right (And.right (And.right (And.right (And.right (And.right (And.right (And.right (by assumption))))))))))))) | exact And.right (And.right (And.right (And.right (And.right (And.right (And.right (And.right (And.right (And.right (And.right (And.right (And.right (And.right (by assumption)))))))))))))) | exact And.right (And.right (And.right (And.right (And.right (And.right (And.right (And.right (And.right (And.right (And.right (And.right (And.right (And.right (And.right (by assumption))))))))))))))))⟩
end

end
/- part O1 -/
section
def ownZ (x : Int) (fs : List (Int × Int)) : Bool := fs.any fun f => f.1 == x
theorem own_yes {x fa fp : Int} {fs : List (Int × Int)} {i : Nat} (h : fs[i]? = some (fa, fp)) (e : fa = x) : true = ownZ x fs := by
  symm; exact List.any_eq_true.mpr ⟨_, List.mem_of_getElem? h, by simp [e]⟩
theorem own_no {x fa fp : Int} {fs : List (Int × Int)} {i : Nat} (h0 : ∀ f ∈ fs.take i, f.1 ≠ x) (h : fs[i]? = some (fa, fp)) (e : fa ≠ x) : ∀ f ∈ fs.take (i + 1), f.1 ≠ x := by
  rw [List.take_add_one, h]
  intro f hf
  rcases List.mem_append.mp hf with hf | hf
  · exact h0 f hf
  · have : f = (fa, fp) := by simpa using hf
    subst this; exact e
theorem own_all {x : Int} {fs : List (Int × Int)} {n : Nat} (hn : n = fs.length) (h : ∀ f ∈ fs.take n, f.1 ≠ x) : false = ownZ x fs := by
  subst hn; rw [List.take_length] at h
  symm; unfold ownZ; rw [List.any_eq_false]; intro f hf; simpa using h f hf
section
local macro_rules | `(tactic| walk_at "exec For Name Attribute cons nil") => `(tactic| (k_dflt (refine Stop.out ?_)))
local macro_rules | `(tactic| walk_at "pyIter ref") => `(tactic| (k_dflt (refine Stop.out ?_)))
theorem own_runs {w : World} {x : Int} {t : Tok} {lay ld fl : Addr} {e2 e3 e4 : Value} {q1 q2 q3 q4 q5 li : Int} {k1 k2 k3 k4 k5 lt : Tok} {vs : List Value} {n : Nat} {fs : List (Int × Int)} {news : List (Addr × Obj)}
    (m1 : (lay, instObj 255 ld) ∈ news) (m2 : (ld, layD q1 q2 q3 q4 q5 k1 k2 k3 k4 k5 (.ref fl) e2 e3 e4 li lt) ∈ news) (m3 : (fl, listOf vs.toArray n) ∈ news) (hra : RowsAre news vs fs) :
    Runs w 2 188 [.ref lay, .int x t] news (fun r news' => r = .bool (ownZ x fs) ∧ news = news') := by
  unfold Runs
  k_fill
  intro p loose mean mg mb dp un gd cn cs a ccd cl outer A₀ base h₀ L m s Q E B F X N T hk hd hu hret
  refine wpAny_call ?_
  k_dflt ktr_enter
  k_steps
  refine Stop.on ?_
  (with_unfolding_all refine' For_invVF (by assumption) ?k1 ?k2 ?_; (case k1 => exact rfl); (case k2 => exact rfl); k_whole)
  k_steps
  refine Stop.on ?_
  refine kdl_iter (nn := n) (vs := vs) (fun i m₁ nx => nx = news ∧ m₁ (Str.ofString "address") = some (.int x t) ∧ ∀ f ∈ fs.take i, f.1 ≠ x) (by rfl) m3 (by assumption) (by assumption) ⟨rfl, rfl, fun f hf => by simp at hf⟩ ?_ ?_
  · rintro i v m₁ nx h tk own hv hoff hmem ⟨rfl, ma, hno⟩ F₁ N₁
    obtain ⟨⟨fa, fp⟩, rw, rd, r1, r2, r3, j1, j2, j3, ta, tp, tm, hf, rfl, hm1, hm2⟩ := hra.2 i v hv
    have hm1' : (rw, instObj 148 rd) ∈ nx ++ own := List.mem_append_left _ hm1
    have hm2' : (rd, rowD r1 r2 r3 j1 j2 j3 fa fp ta tp tm) ∈ nx ++ own := List.mem_append_left _ hm2
    rw [map_knows ma] at F₁
    obtain ⟨T, hT⟩ : ∃ T, T = nx ++ own := ⟨_, rfl⟩
    rw [← hT] at N₁ hm1' hm2'
    k_steps
    · exact hret _ _ _ _ (by assumption) (news_sub (by assumption) (fun p hp => hT ▸ List.mem_append_left _ hp)) ⟨congrArg Value.bool (own_yes hf (by assumption)), rfl⟩
    · exact ⟨_, _, _, _, nx, rfl, by assumption, by assumption, fun p hp => hT ▸ List.mem_append_left _ hp, fun p hp => hT ▸ List.mem_append_right _ hp, hoff, hmem, rfl, rfl, own_no hno hf (by assumption)⟩
  · rintro m₁ nx h tk ⟨rfl, ma, hno⟩ F₁ N₁
    k_steps
    exact hret _ _ _ _ (by assumption) (by assumption) ⟨congrArg Value.bool (own_all hra.1 hno), rfl⟩
end

end
/- part P1 -/
section
theorem pool_nn {c : Int} {b : Bool} : 0 ≤ (if -1 - c > c then -1 - c else c) * (if b = true then 1 else 0) := by
  refine Int.mul_nonneg ?_ ?_
  · split <;> omega
  · split <;> decide
theorem pool_use {w : World} {l : Addr} {vs : List Value} {ns : List Int} {k : Int} {kt : Tok} {news : List (Addr × Obj)} {p : Program} {loose : List Str} {mean : ExcName → Option Value} {mg mb : Str → Option Value} {dp un : Nat} {gd : Option (List Code)} {cn : Str} {cs : Scope} {a : Addr} {ccd : Value} {cl : List (Str × Addr)} {outer : List Env} {A₀ : Around} {base h₀ : Heap} {L : Addr} {m : Str → Option Value} {s : Shared}
    {Q E : Value → Shared → Prop} (B : Below A₀ base outer h₀) (F : Fr h₀ L s.heap m) (X : (hd.heap_39 w.params).In h₀) (N : News h₀ L s.heap news) (T : Top p loose mean mg mb h₀) (hck : cs.kind = .function) (hl : h₀.IsList l vs.toArray) (hi : IntsAre vs ns) (hlen : ns.length ≤ 63) (hk : 0 ≤ k) (hk' : k < 2) (hd' : dp + 1 < recursionLimit) (hu : un + 8 * 1 < cLine)
    (ret : ∀ src o h' tk', SrcOk o → (∀ p ∈ news, p.1 ≠ src) → Fr h₀ L h' m → News h₀ L h' ((src, o) :: news) → Q (.ref src) { s with heap := h', toks := tk' }) :
    wpAny (model PySem.Challenge.rw_on0346_01.row.prog w) (ktrTop dp un gd cn cs L a ccd cl outer) (call (.ref 266) [.ref l, .int k kt]) Q E s := by
  revert X
  k_fill
  intro X
  refine wpAny_call ?_
  k_dflt ktr_enter
  rename Fr h₀ L _ m => FG
  have hl' := hl.at fun o e => FG.keep l o e
  k_steps
  · refine ret _ _ _ _ ⟨_, _, _, _, _, rfl, pool_nn, Int.fmod_nonneg_of_pos _ (by decide), Int.fmod_lt_of_pos _ (by decide)⟩ (fun p hp => Nat.ne_of_lt ((by assumption : ∀ p ∈ news, p.1 < _) p hp)) (by assumption) (by assumption)
  · refine ret _ _ _ _ ⟨_, _, _, _, _, rfl, pool_nn, Int.fmod_nonneg_of_pos _ (by decide), Int.fmod_lt_of_pos _ (by decide)⟩ (fun p hp => Nat.ne_of_lt ((by assumption : ∀ p ∈ news, p.1 < _) p hp)) (by assumption) (by assumption)

end
/- part R1 -/
section
theorem src_sub {h₀ h : Heap} {L src : Addr} {o' : Obj} {all rest : List (Addr × Obj)} (N : News h₀ L h all) (hs : (src, o') ∈ all) (hr : ∀ p ∈ rest, p ∈ all) : News h₀ L h ((src, o') :: rest) := by
  refine news_sub N fun p hp => ?_
  rcases List.mem_cons.mp hp with rfl | hp
  · exact hs
  · exact hr p hp
section
local macro_rules | `(tactic| k_all) => `(tactic| first | exact allLt_ne (by assumption) | exact allLt_ne (And.right (by assumption)) | exact allLt_ne (And.right (And.right (by assumption))) | exact allLt_ne (And.right (And.right (And.right (by assumption)))) | exact allLt_ne (And.right (And.right (And.right (And.right (by assumption))))) | exact allLt_ne (And.right (And.right (And.right (And.right (And.right (by assumption)))))) | exact allLt_ne (And.right (And.right (And.right (And.right (And.right (And.right (by assumption))))))) | exact allLt_ne (And.right (And.right (And.right (And.right (And.right (And.right (And.right (by assumption)))))))) | exact allLt_ne (And.right (And.right (And.right (And.right (And.right (And.right (And.right (And.right (by assumption))))))))))
local macro_rules | `(tactic| k_all) => `(tactic| assumption)
local macro_rules | `(tactic| walk_at "call ref") => `(tactic| (k_here; (with_reducible show wpAny _ _ (call (Value.ref 273) _) _ _ _); k_dflt (refine' take_use ?k1 ?k2 ?k3 ?k4 ?k5 ?k6 ?k7 ?k8 ?k9 ?k10 ?k11 ?k12 ?_; (case k1 => k_asm); (case k2 => k_asm); (case k3 => k_asm); (case k4 => k_asm); (case k5 => k_asm); (case k6 => first | exact rfl | assumption); (case k7 => k_mem); (case k8 => assumption); (case k9 => omega); (case k10 => omega); (case k11 => ktr_room); (case k12 => ktr_units); intro x' t' o' h' tk' hx0' hx1' ho' F' N')))
local macro_rules | `(tactic| walk_at "call ref") => `(tactic| (k_here; (with_reducible show wpAny _ _ (call (Value.ref 273) _) _ _ _); k_dflt (refine' take32_use ?k1 ?k2 ?k3 ?k4 ?k5 ?k6 ?k7 ?k8 ?k11 ?k12 ?_; (case k1 => k_asm); (case k2 => k_asm); (case k3 => k_asm); (case k4 => k_asm); (case k5 => k_asm); (case k6 => first | exact rfl | assumption); (case k7 => k_mem); (case k8 => assumption); (case k11 => ktr_room); (case k12 => ktr_units); intro x' t' o' h' tk' hx0' hx1' ho' F' N')))
local macro_rules | `(tactic| walk_at "call ref") => `(tactic| (k_here; (with_reducible show wpAny _ _ (call (Value.ref 320) _) _ _ _); k_dflt (refine' runs_use ?k1 ?k2 ?k3 ?k4 ?k5 ?k6 (head_runs ?c1 ?c2) ?k7 ?k8 ?_; (case k1 => k_asm); (case k2 => k_asm); (case k3 => k_asm); (case k4 => k_asm); (case k5 => k_asm); (case k6 => first | exact rfl | assumption); (case k7 => ktr_room); (case k8 => ktr_units); (case c1 => assumption); (case c2 => assumption)); intro r' news' h' tk' F' N' hO'; (obtain ⟨l', o', n', a0', t0', a1', t1', a2', t2', a3', t3', a4', t4', a5', t5', b6', b7', a8', t8', bs', t9', er', en', ho', hf'⟩ := hO'); subst er'; subst en'; (obtain ⟨hfs', hfr'⟩ := List.forall_mem_cons.mp hf'); (replace hfs' := neN hfs'); clear hf'; (try dsimp only at hfs')))
local macro_rules | `(tactic| walk_at "subscriptTail Name Constant ref int") => `(tactic| (k_here; (with_reducible show wpAny _ _ (subscriptTail _ _ (Value.ref _) (Value.int _ _)) _ _ _); k_dflt (refine' my_item ?k1 ?k2 ?k3 ?k4 ?_ ?k6; (case k1 => is_list); (case k2 => decide); (case k3 => decide); (case k4 => exact rfl); (case k6 => with_unfolding_all rfl); k_whole)))
local macro_rules | `(tactic| walk_at "compareOp Eq ref ref") => `(tactic| (k_here; (with_reducible show wpAny _ _ (compareOp CmpOp.Eq (Value.ref _) (Value.ref _)) _ _ _); k_dflt (refine' tup_same ?a ?b ?r ?u ?_; (case a => exact News.get (by k_asm) (by k_mem)); (case b => exact News.get (by k_asm) (by k_mem)); (case r => exact fun v _ => beq_self_eq_true v); (case u => ktr_units); k_whole)))
local macro_rules | `(tactic| walk_at "callWith ref") => `(tactic| (k_here; (with_reducible show wpAny _ _ (callWith _ _ _ (backTo _ (starEach [] _)) []) _ _ _); k_dflt (refine' callWith_K0 ?k1 ?k2 ?_; (case k1 => k_in); (case k2 => k_is); k_whole)))
local macro_rules | `(tactic| walk_at "call ref") => `(tactic| (k_here; (with_reducible show wpAny _ _ (call (Value.ref 103) _) _ _ _); k_dflt (refine wpAny_call ?_; k_enter)))
local macro_rules | `(tactic| walk_at "call ref") => `(tactic| (k_here; (with_reducible show wpAny _ _ (call (Value.ref 159) _) _ _ _); k_dflt (refine wpAny_call ?_; k_enter)))
local macro_rules | `(tactic| walk_at "call ref") => `(tactic| (k_here; (with_reducible show wpAny _ _ (call (Value.ref 106) _) _ _ _); k_dflt (refine' call_cls ?k1 ?k2 ?k3 ?k4 ?k5 ?k6 ?_; (case k1 => k_asm); (case k2 => k_asm); (case k3 => k_asm); (case k4 => k_is); (case k5 => k_is); (case k6 => k_is); k_whole; intro x' d' h' F' N' l1 l2; (try k_lt l1); (try k_lt2 l2); (try k_sweep); k_enter)))
theorem right_runs {w : World} {src : Addr} {o : Obj} {rest : List (Addr × Obj)} (hr : ∀ p ∈ rest, p.1 ≠ src) (ho : SrcOk o) :
    Runs w 30 327 [.ref src] ((src, o) :: rest) (fun r news' => ∃ o', r = .bool true ∧ SrcOk o' ∧ news' = (src, o') :: rest) := by
  unfold Runs
  k_fill
  intro p loose mean mg mb dp un gd cn cs a ccd cl outer A₀ base h₀ L m s Q E B F X N T hk hd hu hret
  refine wpAny_call ?_
  k_dflt ktr_enter
  k_steps
  rename News _ _ _ _ => NN
  refine hret _ _ _ _ (by assumption) (src_sub NN ?_ ?_) ⟨_, rfl, by assumption, rfl⟩
  · repeat (first | exact List.Mem.head _ | refine List.Mem.tail _ ?_)
  · intro p hp; repeat (first | exact hp | refine List.Mem.tail _ ?_)
end

end
/- part V0 -/
section
theorem faces_use {w : World} {src cB cL : Addr} {o oB oL : Obj} {T : List (Addr × Obj)} {p : Program} {loose : List Str} {mean : ExcName → Option Value} {mg mb : Str → Option Value} {dp un : Nat} {gd : Option (List Code)} {cn : Str} {cs : Scope} {a : Addr} {ccd : Value} {cl : List (Str × Addr)} {outer : List Env} {A₀ : Around} {base h₀ : Heap} {L : Addr} {m : Str → Option Value} {s : Shared}
    {Q E : Value → Shared → Prop} (B : Below A₀ base outer h₀) (F : Fr h₀ L s.heap m) (X : (hd.heap_39 w.params).In h₀) (N : News h₀ L s.heap ((src, o) :: (cB, oB) :: (cL, oL) :: T)) (Tp : Top p loose mean mg mb h₀) (hk : cs.kind = .function)
    (ho : SrcOk o) (hs1 : cB ≠ src) (hs2 : cL ≠ src) (hs3 : ∀ p ∈ T, p.1 ≠ src) (hT1 : ∀ p ∈ T, p.1 ≠ cB) (hT2 : ∀ p ∈ T, p.1 ≠ cL) (_hc : cB ≠ cL) (hd' : dp + 6 < recursionLimit) (hu : un + 8 * 6 < cLine)
    (ret : ∀ lf fs vs n o' T2 h' tk', SrcOk o' → (∀ p ∈ T, p ∈ T2) → (∀ p ∈ T2, p.1 ≠ src) → (∀ p ∈ T2, p.1 ≠ cB) → (∀ p ∈ T2, p.1 ≠ cL) → (lf, listOf (List.toArray vs) n) ∈ T2 → FacesAre T2 vs fs → 1 ≤ fs.length → fs.length ≤ 3 → FacesOk fs → Fr h₀ L h' m → News h₀ L h' ((src, o') :: (cB, oB) :: (cL, oL) :: T2) → Q (.ref lf) { s with heap := h', toks := tk' }) :
    wpAny (model PySem.Challenge.rw_on0346_01.row.prog w) (ktrTop dp un gd cn cs L a ccd cl outer) (call (.ref 306) [.ref src]) Q E s := by
  refine runs_use B F X N Tp hk (faces_runs (List.forall_mem_cons.mpr ⟨hs1, List.forall_mem_cons.mpr ⟨hs2, hs3⟩⟩) ho) hd' hu ?_
  rintro r news' h' tk' F' N' ⟨lf, fs, vs, n, o', fx, rfl, rfl, ho', hfa, h1, h3, hok, hsl, hrl, hfx⟩
  obtain ⟨l1, l2⟩ := List.forall_mem_cons.mp hrl
  obtain ⟨l2, l3⟩ := List.forall_mem_cons.mp l2
  refine ret lf fs vs n o' ((lf, listOf (List.toArray vs) n) :: (fx ++ T)) h' tk' ho' ?_ ?_ ?_ ?_ (.head _) (hfa.mono ?_) h1 h3 hok F' (news_sub N' ?_)
  · exact fun p hp => .tail _ (List.mem_append_right _ hp)
  · refine List.forall_mem_cons.mpr ⟨Ne.symm hsl, fun p hp => ?_⟩
    rcases List.mem_append.mp hp with hp | hp
    · exact (hfx p hp).1
    · exact hs3 p hp
  · refine List.forall_mem_cons.mpr ⟨Ne.symm l1, fun p hp => ?_⟩
    rcases List.mem_append.mp hp with hp | hp
    · exact Ne.symm ((hfx p hp).2.2 _ (.head _))
    · exact hT1 p hp
  · refine List.forall_mem_cons.mpr ⟨Ne.symm l2, fun p hp => ?_⟩
    rcases List.mem_append.mp hp with hp | hp
    · exact Ne.symm ((hfx p hp).2.2 _ (.tail _ (.head _)))
    · exact hT2 p hp
  · exact fun p hp => .tail _ (List.mem_append_left _ hp)
  · intro p hp
    simp only [List.mem_cons, List.mem_append] at hp ⊢
    rcases hp with h | h | h | h | h | h
    · exact .inl h
    · exact .inr (.inr (.inr (.inl h)))
    · exact .inr (.inr (.inr (.inr (.inl h))))
    · exact .inr (.inl h)
    · exact .inr (.inr (.inl h))
    · exact .inr (.inr (.inr (.inr (.inr h))))
/-- between the turns of the law -/
def LawJ (cL cB sl : Addr) (i : Nat) (m : Str → Option Value) (nx : List (Addr × Obj)) : Prop :=
  m (Str.ofString "script") = some (.ref sl) ∧ ∃ oL oB vL vB tl, nx = (cB, oB) :: (cL, oL) :: tl ∧ oL.data = .cell vL ∧ oB.data = .cell vB ∧
    (0 < i → ∃ lay ld q1 q2 q3 q4 q5 k1 k2 k3 k4 k5 e1 e2 e3 e4 li lt, vL = some (.ref lay) ∧ tl = [(ld, layD q1 q2 q3 q4 q5 k1 k2 k3 k4 k5 e1 e2 e3 e4 li lt), (lay, instObj 255 ld)] ∧ ld ≠ lay ∧ ld ≠ cL ∧ ld ≠ cB ∧ lay ≠ cL ∧ lay ≠ cB)
theorem name_list {h : Heap} {l : Addr} {vs : List Value} (_ : h.IsList l vs.toArray) : ∃ z, z = l := ⟨_, rfl⟩
theorem law_end {n : Nat} : 1 ≤ (if (if (n : Int) < 2 then (n : Int) else 2) > 1 then if (n : Int) < 2 then (n : Int) else 2 else 1) ∧ (if (if (n : Int) < 2 then (n : Int) else 2) > 1 then if (n : Int) < 2 then (n : Int) else 2 else 1) ≤ 2 := by
  split <;> split <;> omega
theorem name_faces {T : List (Addr × Obj)} {vs : List Value} {fs : List (Int × Int)} (_ : FacesAre T vs fs) : ∃ a b c, a = T ∧ b = vs ∧ c = fs := ⟨_, _, _, rfl, rfl, rfl⟩
theorem name_src {T : List (Addr × Obj)} {o : Obj} {src : Addr} {h₀ h : Heap} {L : Addr} (_ : News h₀ L h ((src, o) :: T)) : ∃ a b, a = src ∧ b = o := ⟨_, _, rfl, rfl⟩
theorem name_mem {T : List (Addr × Obj)} {a : Addr} {vs : List Value} {n : Nat} (_ : (a, listOf (List.toArray vs) n) ∈ T) : ∃ x y, x = a ∧ y = n := ⟨_, _, rfl, rfl⟩
/-- between the faces' rows that are made -/
def RowsJ (src cB cL : Addr) (o' oB oL : Obj) (T : List (Addr × Obj)) (fs : List (Int × Int)) (i : Nat) (ys : List Value) (nx : List (Addr × Obj)) : Prop :=
  ∃ T', nx = (src, o') :: (cB, oB) :: (cL, oL) :: T' ∧ (∀ p ∈ T, p ∈ T') ∧ (∀ p ∈ T', p.1 ≠ src) ∧ (∀ p ∈ T', p.1 ≠ cB) ∧ (∀ p ∈ T', p.1 ≠ cL) ∧ RowsAre T' ys (fs.take i)
theorem RowsAre.snoc {T : List (Addr × Obj)} {ys : List Value} {fs : List (Int × Int)} {i : Nat} (h : RowsAre T ys (fs.take i)) {x d : Addr} {fa fp : Int} {r1 r2 r3 : Int} {j1 j2 j3 ta tp tm : Tok} (hf : fs[i]? = some (fa, fp)) (h1 : (x, instObj 148 d) ∈ T) (h2 : (d, rowD r1 r2 r3 j1 j2 j3 fa fp ta tp tm) ∈ T) :
    RowsAre T (ys ++ [.ref x]) (fs.take (i + 1)) := by
  have hi : i < fs.length := (List.getElem?_eq_some_iff.mp hf).1
  have ht : fs.take (i + 1) = fs.take i ++ [(fa, fp)] := by rw [List.take_add_one, hf]; rfl
  have hl : ys.length = i := by rw [h.1, List.length_take]; omega
  rw [ht]
  refine ⟨by simp [h.1], fun k v e => ?_⟩
  by_cases hk : k < ys.length
  · rw [List.getElem?_append_left hk] at e
    obtain ⟨f, a1, a2, b1, b2, b3, c1, c2, c3, c4, c5, c6, e1, e2, e3, e4⟩ := h.2 k v e
    exact ⟨f, a1, a2, b1, b2, b3, c1, c2, c3, c4, c5, c6, by rw [List.getElem?_append_left (by rw [← h.1]; exact hk)]; exact e1, e2, e3, e4⟩
  · have hk' : k = ys.length := by
      have := (List.getElem?_eq_some_iff.mp e).1
      rw [List.length_append] at this; simp at this; omega
    subst hk'
    simp at e
    exact ⟨(fa, fp), x, d, r1, r2, r3, j1, j2, j3, ta, tp, tm, by rw [h.1]; simp, e.symm, h1, h2⟩
theorem rows_end {g0 h' : Heap} {L src cB cL lf I C D x d : Addr} {m : Str → Option Value} {o' oB oL oI oC : Obj} {T T' : List (Addr × Obj)} {fs : List (Int × Int)} {ys vs : List Value} {fa fp r1 r2 r3 : Int} {j1 j2 j3 ta tp tm : Tok} {i nf tk : Nat} {s₁ : Shared}
    (F : Fr g0 L h' m) (N : News g0 L h' ((x, instObj 148 d) :: (d, rowD r1 r2 r3 j1 j2 j3 fa fp ta tp tm) :: (I, oI) :: (C, oC) :: (D, LCg.lst ys) :: (src, o') :: (cB, oB) :: (cL, oL) :: T'))
    (hlf : (lf, listOf (List.toArray vs) nf) ∈ T) (hTT : ∀ p ∈ T, p ∈ T') (hTs : ∀ p ∈ T', p.1 ≠ src) (hTB : ∀ p ∈ T', p.1 ≠ cB) (hTL : ∀ p ∈ T', p.1 ≠ cL) (hra : RowsAre T' ys (fs.take i)) (hf : fs[i]? = some (fa, fp))
    (off : LCg.Off3 I C D ((src, o') :: (cB, oB) :: (cL, oL) :: T')) (hd : I < d ∧ C < d ∧ D < d ∧ src < d ∧ cB < d ∧ cL < d ∧ AllLt d T') (hx : d < x) :
    LCg.CompEnd g0 L m s₁ I oI C oC D (LCg.lst ys) (LCg.SrcAt g0 lf vs.toArray) (fun y nx' => RowsJ src cB cL o' oB oL T fs (i + 1) (ys ++ [y]) nx') (.ref x) { s₁ with heap := h', toks := tk } := by
  obtain ⟨d1, d2, d3, d4, d5, d6, d7⟩ := hd
  have lx : ∀ {a : Nat}, a < d → a ≠ x := fun {a} h => Nat.ne_of_lt (Nat.lt_trans h hx)
  have ld : ∀ {a : Nat}, a < d → a ≠ d := fun h => Nat.ne_of_lt h
  refine LCg.CompEnd.intro F N ((src, o') :: (cB, oB) :: (cL, oL) :: (x, instObj 148 d) :: (d, rowD r1 r2 r3 j1 j2 j3 fa fp ta tp tm) :: T') ?_ ?_ (.inr ⟨_, .tail _ (.tail _ (.tail _ (.tail _ (.tail _ (hTT _ hlf))))), rfl, _, rfl⟩) ⟨(x, instObj 148 d) :: (d, rowD r1 r2 r3 j1 j2 j3 fa fp ta tp tm) :: T', rfl, fun p hp => .tail _ (.tail _ (hTT p hp)), ?_, ?_, ?_, ?_⟩
  · intro p hp
    simp only [List.mem_cons] at hp ⊢
    rcases hp with h | h | h | h | h | h | h | h | h
    · exact .inr (.inr (.inl h))
    · exact .inr (.inr (.inr (.inl h)))
    · exact .inr (.inr (.inr (.inr (.inl h))))
    · exact .inr (.inr (.inr (.inr (.inr (.inl h)))))
    · exact .inr (.inr (.inr (.inr (.inr (.inr (.inl h))))))
    · exact .inr (.inr (.inr (.inr (.inr (.inr (.inr (.inl h)))))))
    · exact .inl h
    · exact .inr (.inl h)
    · exact .inr (.inr (.inr (.inr (.inr (.inr (.inr (.inr h)))))))
  · have o3 := off.mem
    refine LCg.Off3.of fun p hp => ?_
    simp only [List.mem_cons] at hp
    rcases hp with h | h | h | h | h | h
    · exact o3 p (by simp [h])
    · exact o3 p (by simp [h])
    · exact o3 p (by simp [h])
    · subst h; exact ⟨Ne.symm (lx d1), Ne.symm (lx d2), Ne.symm (lx d3)⟩
    · subst h; exact ⟨Ne.symm (ld d1), Ne.symm (ld d2), Ne.symm (ld d3)⟩
    · exact o3 p (by simp [h])
  · exact List.forall_mem_cons.mpr ⟨Ne.symm (lx d4), List.forall_mem_cons.mpr ⟨Ne.symm (ld d4), hTs⟩⟩
  · exact List.forall_mem_cons.mpr ⟨Ne.symm (lx d5), List.forall_mem_cons.mpr ⟨Ne.symm (ld d5), hTB⟩⟩
  · exact List.forall_mem_cons.mpr ⟨Ne.symm (lx d6), List.forall_mem_cons.mpr ⟨Ne.symm (ld d6), hTL⟩⟩
  · exact (hra.mono fun p hp => .tail _ (.tail _ hp)).snoc hf (.head _) (.tail _ (.head _))

end
/- part M1 -/
section
theorem fm_nat (n j : Nat) : ((n : Int).fdiv (2 ^ j)).fmod 2 = ((n / 2 ^ j % 2 : Nat) : Int) := by
  rw [Int.fdiv_eq_ediv_of_nonneg _ (by exact_mod_cast Nat.zero_le (2 ^ j)), Int.fmod_eq_emod_of_nonneg _ (by decide)]
  push_cast
  rfl
theorem bitsZ_nat (n : Nat) : bitsZ (n : Int) = (List.range 32).map fun k => ((n / 2 ^ (31 - k) % 2 : Nat) : Int) := by
  rw [bitsZ, rangeKs, List.map_map]
  refine List.map_congr_left fun k hk => ?_
  have hk' := List.mem_range.mp hk
  simp only [Function.comp_apply]
  rw [show ((31 : Int) - (0 + (k : Int))).toNat = 31 - k by omega]
  exact fm_nat n (31 - k)
theorem bit_tb (n i : Nat) : n / 2 ^ i % 2 = if n.testBit i then 1 else 0 := by
  rw [Nat.testBit_eq_decide_div_mod_eq]
  have := Nat.mod_two_eq_zero_or_one (n / 2 ^ i)
  rcases this with h | h <;> simp [h]
theorem ones_low {n m : Nat} : n % 2 ^ m = 2 ^ m - 1 ↔ ∀ i, i < m → n.testBit i = true := by
  constructor
  · intro h i hi
    have := congrArg (fun z => Nat.testBit z i) h
    simp only [Nat.testBit_mod_two_pow, Nat.testBit_two_pow_sub_one, hi, decide_true, Bool.true_and] at this
    exact this
  · intro h
    refine Nat.eq_of_testBit_eq fun i => ?_
    rw [Nat.testBit_mod_two_pow, Nat.testBit_two_pow_sub_one]
    by_cases hi : i < m
    · simp [hi, h i hi]
    · simp [hi]
theorem high_same {n a m : Nat} : n / 2 ^ m = a / 2 ^ m ↔ ∀ i, m ≤ i → n.testBit i = a.testBit i := by
  constructor
  · intro h i hi
    have := congrArg (fun z => Nat.testBit z (i - m)) h
    simp only [Nat.testBit_div_two_pow] at this
    rw [show i - m + m = i by omega] at this
    exact this
  · intro h
    refine Nat.eq_of_testBit_eq fun i => ?_
    rw [Nat.testBit_div_two_pow, Nat.testBit_div_two_pow]
    exact h _ (by omega)
theorem and_mask {a m : Nat} (ha : a < 2 ^ 32) (hm : m ≤ 32) : a &&& (2 ^ 32 - 2 ^ m) = 2 ^ m * (a / 2 ^ m) := by
  have e : 2 ^ 32 - 2 ^ m = 2 ^ m * (2 ^ (32 - m) - 1) := by
    rw [Nat.mul_sub, Nat.mul_one, ← Nat.pow_add, show m + (32 - m) = 32 by omega]
  rw [e]
  refine Nat.eq_of_testBit_eq fun i => ?_
  rw [Nat.testBit_and, Nat.testBit_two_pow_mul, Nat.testBit_two_pow_mul, Nat.testBit_two_pow_sub_one, Nat.testBit_div_two_pow]
  by_cases hi : m ≤ i
  · rw [show i - m + m = i by omega]
    by_cases h32 : i < 32
    · simp [hi, show i - m < 32 - m by omega]
    · have : a.testBit i = false := Nat.testBit_lt_two_pow (Nat.lt_of_lt_of_le ha (Nat.pow_le_pow_right (by decide) (by omega)))
      simp [this]
  · simp [hi]
/-- the plain law of the mask, over naturals -/
theorem mask_eq {n a m : Nat} : n = 2 ^ m * (a / 2 ^ m) + (2 ^ m - 1) ↔ n / 2 ^ m = a / 2 ^ m ∧ n % 2 ^ m = 2 ^ m - 1 := by
  have hp : 0 < 2 ^ m := Nat.two_pow_pos m
  constructor
  · intro h
    rw [h]
    refine ⟨?_, ?_⟩
    · rw [Nat.mul_add_div hp, Nat.div_eq_of_lt (show 2 ^ m - 1 < 2 ^ m by omega), Nat.add_zero]
    · rw [Nat.mul_add_mod, Nat.mod_eq_of_lt (show 2 ^ m - 1 < 2 ^ m by omega)]
  · rintro ⟨h1, h2⟩
    rw [← h1, ← h2]
    exact (Nat.div_add_mod n (2 ^ m)).symm
theorem drop_ones (n p : Nat) (hp : p ≤ 32) : (!(List.drop p (bitsZ (n : Int))).any fun x => x == 0) = decide (n % 2 ^ (32 - p) = 2 ^ (32 - p) - 1) := by
  rw [Bool.eq_iff_iff, decide_eq_true_iff, ones_low, Bool.not_eq_true', List.any_eq_false, bitsZ_nat]
  constructor
  · intro h i hi
    have hm : ((n / 2 ^ i % 2 : Nat) : Int) ∈ List.drop p ((List.range 32).map fun k => ((n / 2 ^ (31 - k) % 2 : Nat) : Int)) := by
      rw [← List.map_drop]
      refine List.mem_map.mpr ⟨31 - i, ?_, by rw [show 31 - (31 - i) = i by omega]⟩
      rw [List.mem_drop_iff_getElem]
      exact ⟨31 - i - p, by simp; omega, by simp; omega⟩
    have := h _ hm
    rw [bit_tb] at this
    by_cases hb : n.testBit i
    · exact hb
    · simp [hb] at this
  · intro h v hv
    rw [← List.map_drop] at hv
    obtain ⟨k, hk, rfl⟩ := List.mem_map.mp hv
    rw [List.mem_drop_iff_getElem] at hk
    obtain ⟨j, hj, e⟩ := hk
    simp at e hj
    rw [bit_tb, h (31 - k) (by omega)]
    decide
theorem take_same (n a p : Nat) (hp : p ≤ 32) (hn : n < 2 ^ 32) (ha : a < 2 ^ 32) : List.take p (bitsZ (n : Int)) = List.take p (bitsZ (a : Int)) ↔ n / 2 ^ (32 - p) = a / 2 ^ (32 - p) := by
  rw [high_same, bitsZ_nat, bitsZ_nat]
  constructor
  · intro h i hi
    by_cases h32 : i < 32
    · have e := congrArg (fun l : List Int => l[31 - i]?) h
      simp only [List.getElem?_take, show 31 - i < p by omega, if_true, List.getElem?_map, List.getElem?_range (show 31 - i < 32 by omega), Option.map_some, Option.some.injEq] at e
      rw [show 31 - (31 - i) = i by omega, bit_tb, bit_tb] at e
      by_cases b1 : n.testBit i <;> by_cases b2 : a.testBit i <;> simp [b1, b2] at e ⊢
    · rw [Nat.testBit_lt_two_pow (Nat.lt_of_lt_of_le hn (Nat.pow_le_pow_right (by decide) (by omega))), Nat.testBit_lt_two_pow (Nat.lt_of_lt_of_le ha (Nat.pow_le_pow_right (by decide) (by omega)))]
  · intro h
    rw [← List.map_take, ← List.map_take]
    refine List.map_congr_left fun k hk => ?_
    obtain ⟨j, hj, e⟩ := List.mem_take_iff_getElem.mp hk
    simp at e hj
    rw [bit_tb, bit_tb, h (31 - k) (by omega)]
theorem cast_nat (n a p : Nat) (hn : n < 2 ^ 32) (ha : a < 2 ^ 32) (hp : p ≤ 32) : castZ (n : Int) (a : Int) (p : Int) = forAllZ (n : Int) (a : Int) (p : Int) := by
  have e1 : ((n : Int) == 4294967295) = !(bitsZ (n : Int)).any fun x => x == 0 := by
    have h := drop_ones n 0 (by decide)
    rw [List.drop_zero] at h
    rw [h, Bool.eq_iff_iff, beq_iff_eq, decide_eq_true_iff]
    rw [Nat.mod_eq_of_lt (by simpa using hn)]
    omega
  rw [castZ, forAllZ, e1]
  by_cases h31 : (p : Int) < 31
  · have e2 : ((n : Int) == Builtin.bitAnd (a : Int) (4294967295 - (2 ^ (32 - (p : Int)).toNat - 1)) + (4294967295 - (4294967295 - (2 ^ (32 - (p : Int)).toNat - 1)))) = (decide (List.take (p : Int).toNat (bitsZ (n : Int)) = List.take (p : Int).toNat (bitsZ (a : Int))) && !(List.drop (p : Int).toNat (bitsZ (n : Int))).any fun x => x == 0) := by
      rw [Int.toNat_natCast, drop_ones n p hp, show (32 - (p : Int)).toNat = 32 - p by omega]
      have hpow : 2 ^ (32 - p) ≤ 2 ^ 32 := Nat.pow_le_pow_right (by decide) (by omega)
      have hpos : 0 < 2 ^ (32 - p) := Nat.two_pow_pos _
      obtain ⟨M, hM⟩ : ∃ M : Nat, M = 2 ^ (32 - p) := ⟨_, rfl⟩
      have hMi : (2 : Int) ^ (32 - p) = (M : Int) := by rw [hM]; push_cast; rfl
      have hmask : (4294967295 : Int) - (2 ^ (32 - p) - 1) = ((2 ^ 32 - M : Nat) : Int) := by rw [hMi]; rw [← hM] at hpow; omega
      have hand : Builtin.bitAnd (a : Int) (4294967295 - (2 ^ (32 - p) - 1)) = ((M * (a / M) : Nat) : Int) := by
        rw [hmask, hM]
        have := and_mask (m := 32 - p) ha (by omega)
        rw [← this]
        first | exact bitAnd_pp _ _ | rfl
      rw [hand, hmask, Bool.eq_iff_iff, beq_iff_eq, Bool.and_eq_true, decide_eq_true_iff, decide_eq_true_iff, take_same n a p hp hn ha, ← mask_eq, ← hM]
      rw [← hM] at hpow hpos
      omega
    rw [e2]
  · simp only [decide_eq_false h31, Bool.false_and]
theorem cast_same {x ad pf : Int} (h0 : 0 ≤ x) (h1 : x < 4294967296) (a0 : 0 ≤ ad) (a1 : ad < 4294967296) (p0 : 0 ≤ pf) (p1 : pf ≤ 32) : castZ x ad pf = forAllZ x ad pf := by
  have h := cast_nat x.toNat ad.toNat pf.toNat (by omega) (by omega) (by omega)
  rw [Int.toNat_of_nonneg h0, Int.toNat_of_nonneg a0, Int.toNat_of_nonneg p0] at h
  exact h

end
/- part M2 -/
section
theorem Runs.mono {w : World} {d : Nat} {f : Addr} {vs : List Value} {news : List (Addr × Obj)} {O O2 : Value → List (Addr × Obj) → Prop} (h : Runs w d f vs news O) (k : ∀ r n, O r n → O2 r n) : Runs w d f vs news O2 :=
  fun p loose mean mg mb dp un gd cn cs a ccd cl outer A₀ base h₀ L m s Q E B F X N T hk hd hu hr => h p loose mean mg mb dp un gd cn cs a ccd cl outer A₀ base h₀ L m s Q E B F X N T hk hd hu fun r n h' tk' F' N' o => hr r n h' tk' F' N' (k r n o)
theorem told_runs2 {w : World} {x ad pf : Int} {k t ta tp tm : Tok} {lay ld fl rw rd : Addr} {e2 e3 e4 : Value} {q1 q2 q3 q4 q5 r1 r2 r3 li : Int} {k1 k2 k3 k4 k5 j1 j2 j3 lt : Tok} {vs : List Value} {n : Nat} {i : Int} {news : List (Addr × Obj)}
    (m1 : (lay, instObj 255 ld) ∈ news) (m2 : (ld, layD q1 q2 q3 q4 q5 k1 k2 k3 k4 k5 (.ref fl) e2 e3 e4 li lt) ∈ news)
    (m3 : (fl, listOf vs.toArray n) ∈ news) (hi : 0 ≤ i) (hi' : i < 3) (hv : vs[i.toNat]? = some (.ref rw)) (m4 : (rw, instObj 148 rd) ∈ news) (m5 : (rd, rowD r1 r2 r3 j1 j2 j3 ad pf ta tp tm) ∈ news)
    (h0 : 0 ≤ x) (h1 : x < 4294967296) (a0 : 0 ≤ ad) (a1 : ad < 4294967296) (p0 : 0 ≤ pf) (p1 : pf ≤ 32) :
    Runs w 4 195 [.ref lay, .int x t, .int i k] news (fun r news' => ∃ b, r = .bool b ∧ b = castZ x ad pf ∧ news = news') :=
  (told_runs m1 m2 m3 hi hi' hv m4 m5 h0 h1 a0 a1 p0 p1).mono fun _ _ h => ⟨_, h.1, rfl, h.2⟩
theorem forall_runs2 {w : World} {x ad pf : Int} {t ta tp : Tok} {fc : Addr} {nf : Nat} {news : List (Addr × Obj)} {b : Bool} (hm : (fc, ({ cls := .type "tuple", data := .seq #[.int ad ta, .int pf tp] nf } : Obj)) ∈ news) (hb : b = castZ x ad pf) (h0 : 0 ≤ x) (h1 : x < 4294967296) (a0 : 0 ≤ ad) (a1 : ad < 4294967296) (p0 : 0 ≤ pf) (p1 : pf ≤ 32) :
    Runs w 20 299 [.int x t, .ref fc] news (fun r news' => r = .bool b ∧ news = news') :=
  (forall_runs hm h0 h1 a0 a1 p0 p1).mono fun _ _ h => ⟨by rw [h.1, hb, cast_same h0 h1 a0 a1 p0 p1], h.2⟩

end
/- part V2 -/
section
theorem allLt_at {d : Nat} : ∀ {l : List (Addr × Obj)}, AllLt d l → ∀ p ∈ l, @LT.lt Nat _ p.1 d
  | [], _ => fun _ h => nomatch h
  | _ :: _, h => List.forall_mem_cons.mpr ⟨h.1, allLt_at h.2⟩
/-- the layer is made: what the ledger holds then -/
theorem lay_pack {h₀ h : Heap} {L lay ld D src cB cL : Addr} {o' oB oL : Obj} {T T' : List (Addr × Obj)} {vs ys : List Value} {fs : List (Int × Int)} {q1 q2 q3 q4 q5 li : Int} {k1 k2 k3 k4 k5 lt : Tok} {e2 e3 e4 : Value}
    (N : News h₀ L h ((lay, instObj 255 ld) :: (ld, layD q1 q2 q3 q4 q5 k1 k2 k3 k4 k5 (.ref D) e2 e3 e4 li lt) :: (D, LCg.lst ys) :: (src, o') :: (cB, oB) :: (cL, oL) :: T'))
    (l1 : D < ld ∧ src < ld ∧ cB < ld ∧ cL < ld ∧ AllLt ld T') (l2 : ld < lay) (o1 : @Ne Nat src D ∧ @Ne Nat cB D ∧ @Ne Nat cL D ∧ LCg.Off1 D T')
    (hTs : ∀ p ∈ T', p.1 ≠ src) (hTB : ∀ p ∈ T', p.1 ≠ cB) (hTL : ∀ p ∈ T', p.1 ≠ cL) (hTT : ∀ p ∈ T, p ∈ T') (hfa : FacesAre T vs fs) (hra : RowsAre T' ys (fs.take vs.toArray.size)) (hvs : vs.length = fs.length) {lf : Addr} {nf : Nat} (hlf : (lf, listOf vs.toArray nf) ∈ T) :
    ∃ (T3 : List (Addr × Obj)) (q1' q2' q3' q4' q5' li' : Int) (k1' k2' k3' k4' k5' lt' : Tok) (e2' e3' e4' : Value) (nD : Nat), News h₀ L h ((src, o') :: (ld, layD q1' q2' q3' q4' q5' k1' k2' k3' k4' k5' (.ref D) e2' e3' e4' li' lt') :: (cB, oB) :: (cL, oL) :: T3) ∧
      (lay, instObj 255 ld) ∈ T3 ∧ (D, listOf ys.toArray nD) ∈ T3 ∧ (∀ p ∈ T', p ∈ T3) ∧ FacesAre T3 vs fs ∧ RowsAre T3 ys fs ∧ (lf, listOf vs.toArray nf) ∈ T3 ∧
      (∀ p ∈ T3, p.1 ≠ src) ∧ (∀ p ∈ T3, p.1 ≠ ld) ∧ (∀ p ∈ T3, p.1 ≠ cB) ∧ (∀ p ∈ T3, p.1 ≠ cL) ∧ @Ne Nat ld src ∧ @Ne Nat cB ld ∧ @Ne Nat cL ld ∧ @Ne Nat lay ld ∧ @Ne Nat lay cB ∧ @Ne Nat lay cL ∧ (∀ p ∈ T', p.1 ≠ lay) := by
  obtain ⟨d1, d2, d3, d4, d5⟩ := l1
  obtain ⟨p1, p2, p3, p4⟩ := o1
  have l2' : @LT.lt Nat _ ld lay := l2
  have d1' : @LT.lt Nat _ D ld := d1
  have d2' : @LT.lt Nat _ src ld := d2
  have d3' : @LT.lt Nat _ cB ld := d3
  have d4' : @LT.lt Nat _ cL ld := d4
  refine ⟨(lay, instObj 255 ld) :: (D, LCg.lst ys) :: T', q1, q2, q3, q4, q5, li, k1, k2, k3, k4, k5, lt, e2, e3, e4, ys.length, news_sub N ?_, .head _, .tail _ (.head _), fun p hp => .tail _ (.tail _ hp), hfa.mono fun p hp => .tail _ (.tail _ (hTT p hp)), ?_, .tail _ (.tail _ (hTT _ hlf)), ?_, ?_, ?_, ?_, ?_, ?_, ?_, ?_, ?_, ?_, fun p hp => Nat.ne_of_lt (Nat.lt_trans (allLt_at d5 p hp) l2')⟩
  · intro p hp
    simp only [List.mem_cons] at hp ⊢
    rcases hp with h | h | h | h | h | h | h
    · exact .inr (.inr (.inr (.inl h)))
    · exact .inr (.inl h)
    · exact .inr (.inr (.inr (.inr (.inl h))))
    · exact .inr (.inr (.inr (.inr (.inr (.inl h)))))
    · exact .inl h
    · exact .inr (.inr (.inl h))
    · exact .inr (.inr (.inr (.inr (.inr (.inr h)))))
  · have e : fs.take vs.toArray.size = fs := by rw [List.take_of_length_le]; rw [List.size_toArray]; omega
    rw [e] at hra
    exact hra.mono fun p hp => .tail _ (.tail _ hp)
  · exact List.forall_mem_cons.mpr ⟨Nat.ne_of_gt (Nat.lt_trans d2' l2'), List.forall_mem_cons.mpr ⟨Ne.symm p1, hTs⟩⟩
  · exact List.forall_mem_cons.mpr ⟨Nat.ne_of_gt l2', List.forall_mem_cons.mpr ⟨Nat.ne_of_lt d1', allLt_ne d5⟩⟩
  · exact List.forall_mem_cons.mpr ⟨Nat.ne_of_gt (Nat.lt_trans d3' l2'), List.forall_mem_cons.mpr ⟨Ne.symm p2, hTB⟩⟩
  · exact List.forall_mem_cons.mpr ⟨Nat.ne_of_gt (Nat.lt_trans d4' l2'), List.forall_mem_cons.mpr ⟨Ne.symm p3, hTL⟩⟩
  · exact Nat.ne_of_gt d2'
  · exact Nat.ne_of_lt d3'
  · exact Nat.ne_of_lt d4'
  · exact Nat.ne_of_gt l2'
  · exact Nat.ne_of_gt (Nat.lt_trans d3' l2')
  · exact Nat.ne_of_gt (Nat.lt_trans d4' l2')
theorem name_cell {oL : Obj} {lay : Addr} (_ : oL.data = .cell (some (.ref lay))) : ∃ a b, a = oL ∧ b = lay := ⟨_, _, rfl, rfl⟩
theorem name_asked {ws : List Value} {ns : List Int} (_ : IntsAre ws ns) : ∃ a b, a = ws ∧ b = ns := ⟨_, _, rfl, rfl⟩
theorem map_knows3 {m : Str → Option Value} {x y z : Str} {u v t : Value} (e : m x = some u) (f : m y = some v) (g : m z = some t) : m = fun q => if q = x then some u else if q = y then some v else if q = z then some t else m q := by
  funext q
  by_cases h : q = x
  · rw [if_pos h, h, e]
  · rw [if_neg h]
    by_cases h : q = y
    · rw [if_pos h, h, f]
    · rw [if_neg h]
      by_cases h : q = z
      · rw [if_pos h, h, g]
      · rw [if_neg h]
theorem cons3 {a b c : Addr × Obj} {T : List (Addr × Obj)} {s : Addr} (h1 : a.1 ≠ s) (h2 : b.1 ≠ s) (h3 : c.1 ≠ s) (h : ∀ p ∈ T, p.1 ≠ s) : ∀ p ∈ a :: b :: c :: T, p.1 ≠ s :=
  List.forall_mem_cons.mpr ⟨h1, List.forall_mem_cons.mpr ⟨h2, List.forall_mem_cons.mpr ⟨h3, h⟩⟩⟩
theorem name_inst {T : List (Addr × Obj)} {lay ld : Addr} (_ : (lay, instObj 255 ld) ∈ T) : ∃ a, a = ld := ⟨_, rfl⟩
theorem name_news4 {h₀ h : Heap} {L fd src : Addr} {ws : List Value} {n : Nat} {o : Obj} {T : List (Addr × Obj)} (_ : News h₀ L h ((fd, listOf (List.toArray ws) n) :: (src, o) :: T)) : ∃ a b c d, a = fd ∧ b = ws ∧ c = n ∧ d = o := ⟨_, _, _, _, rfl, rfl, rfl, rfl⟩
theorem ints_at : ∀ {ws : List Value} {ns : List Int}, IntsAre ws ns → ∀ {i : Nat} {v : Value}, ws[i]? = some v → ∃ x t, v = .int x t ∧ x ∈ ns
  | [], ns, h, i, v, e => by simp at e
  | w :: ws, ns, h, i, v, e => by
    cases h with
    | cons n t h' =>
      cases i with
      | zero => exact ⟨n, t, by simpa using e.symm, .head _⟩
      | succ i =>
        obtain ⟨x, t', e1, e2⟩ := ints_at h' (i := i) (by simpa using e)
        exact ⟨x, t', e1, .tail _ e2⟩
/-- between the turns over the asked -/
def AskJ (src lf sl : Addr) (NX : List (Addr × Obj)) (m : Str → Option Value) (nx : List (Addr × Obj)) : Prop :=
  nx = NX ∧ m (Str.ofString "source") = some (.ref src) ∧ m (Str.ofString "faces") = some (.ref lf) ∧ m (Str.ofString "script") = some (.ref sl)
/-- between the items of the faces' addresses -/
def AdrJ (fs : List (Int × Int)) (NX : List (Addr × Obj)) (i : Nat) (ys : List Value) (nx : List (Addr × Obj)) : Prop :=
  nx = NX ∧ IntsAre ys ((fs.take i).map Prod.fst)
theorem ask_ledger {h₀ h : Heap} {L : Addr} {a b c d e : Addr × Obj} {T own : List (Addr × Obj)} (N : News h₀ L h ((a :: b :: c :: d :: e :: T) ++ own)) : ∃ T4, T4 = T ++ own ∧ (∀ p ∈ T, p ∈ T4) ∧ (∀ p ∈ own, p ∈ T4) ∧ News h₀ L h (a :: b :: c :: d :: e :: T4) :=
  ⟨T ++ own, rfl, fun _ h => List.mem_append_left _ h, fun _ h => List.mem_append_right _ h, N⟩
theorem adr_end {g0 h' : Heap} {L lf I C D : Addr} {m : Str → Option Value} {oI oC : Obj} {NX : List (Addr × Obj)} {fs : List (Int × Int)} {ys vs : List Value} {fa fp : Int} {ta : Tok} {i nf tk : Nat} {s₁ : Shared}
    (F : Fr g0 L h' m) (N : News g0 L h' ((I, oI) :: (C, oC) :: (D, LCg.lst ys) :: NX)) (hlf : (lf, listOf (List.toArray vs) nf) ∈ NX) (hra : IntsAre ys ((fs.take i).map Prod.fst)) (hf : fs[i]? = some (fa, fp)) (off : LCg.Off3 I C D NX) :
    LCg.CompEnd g0 L m s₁ I oI C oC D (LCg.lst ys) (LCg.SrcAt g0 lf vs.toArray) (fun y nx' => AdrJ fs NX (i + 1) (ys ++ [y]) nx') (.int fa ta) { s₁ with heap := h', toks := tk } := by
  refine LCg.CompEnd.intro F N NX ?_ off (.inr ⟨_, hlf, rfl, _, rfl⟩) ⟨rfl, ?_⟩
  · exact fun p hp => hp
  · rw [List.take_add_one, hf]
    simp only [Option.toList_some, List.map_append, List.map_cons, List.map_nil]
    exact IntsAre.append hra (.cons _ _ .nil)
theorem own_same {x : Int} {fs : List (Int × Int)} {vs : List Value} (e : vs.length = fs.length) : ownZ x fs = ((fs.take vs.toArray.size).map Prod.fst).any fun y => y == x := by
  rw [List.take_of_length_le (by rw [List.size_toArray]; omega), List.any_map]
  simp [ownZ, Function.comp_def]
def EnumJ (src lf sl : Addr) (x : Int) (tx : Tok) (NX : List (Addr × Obj)) (vs : List Value) (r : List Itm) (m : Str → Option Value) (nx : List (Addr × Obj)) : Prop :=
  ∃ k, k ≤ vs.length ∧ nx = NX ∧ r = enumItems k (vs.drop k) ∧ m (Str.ofString "source") = some (.ref src) ∧ m (Str.ofString "faces") = some (.ref lf) ∧ m (Str.ofString "script") = some (.ref sl) ∧ m (Str.ofString "address") = some (.int x tx)
theorem enum_cons {vs : List Value} {k : Nat} {a : Itm} {r : List Itm} (h : a :: r = enumItems k (vs.drop k)) : ∃ v, vs[k]? = some v ∧ a = .pair (fun t => .int (k : Int) t) v ∧ r = enumItems (k + 1) (vs.drop (k + 1)) := by
  cases hk : vs[k]? with
  | none =>
    have : vs.drop k = [] := List.drop_of_length_le (List.getElem?_eq_none_iff.mp hk)
    rw [this] at h; cases h
  | some v =>
    have hl := (List.getElem?_eq_some_iff.mp hk).1
    rw [List.drop_eq_getElem_cons hl] at h
    have e : vs[k] = v := (List.getElem?_eq_some_iff.mp hk).2
    rw [e] at h
    simp only [enumItems, List.cons.injEq] at h
    exact ⟨v, rfl, h.1, h.2⟩
theorem map_knows4 {m : Str → Option Value} {x y z x4 : Str} {u v t v4 : Value} (e : m x = some u) (f : m y = some v) (g : m z = some t) (g4 : m x4 = some v4) : m = fun q => if q = x then some u else if q = y then some v else if q = z then some t else if q = x4 then some v4 else m q := by
  funext q
  by_cases h : q = x
  · rw [if_pos h, h, e]
  · rw [if_neg h]
    by_cases h : q = y
    · rw [if_pos h, h, f]
    · rw [if_neg h]
      by_cases h : q = z
      · rw [if_pos h, h, g]
      · rw [if_neg h]
        by_cases h : q = x4
        · rw [if_pos h, h, g4]
        · rw [if_neg h]
theorem row_at {T : List (Addr × Obj)} {ys : List Value} {fs : List (Int × Int)} (h : RowsAre T ys fs) {k : Nat} {fa fp : Int} (e : fs[k]? = some (fa, fp)) :
    ∃ (rw rd : Addr) (q1 q2 q3 : Int) (k1 k2 k3 ta tp tm : Tok), ys[((k : Nat) : Int).toNat]? = some (.ref rw) ∧ (rw, instObj 148 rd) ∈ T ∧ (rd, rowD q1 q2 q3 k1 k2 k3 fa fp ta tp tm) ∈ T := by
  have hl : k < ys.length := by rw [h.1]; exact (List.getElem?_eq_some_iff.mp e).1
  obtain ⟨f, a1, a2, b1, b2, b3, c1, c2, c3, c4, c5, c6, e1, e2, e3, e4⟩ := h.2 k _ (List.getElem?_eq_getElem hl)
  rw [e] at e1
  cases e1
  exact ⟨a1, a2, b1, b2, b3, c1, c2, c3, c4, c5, c6, by rw [Int.toNat_natCast, List.getElem?_eq_getElem hl, e2], e3, e4⟩
theorem ne_bool_same {prog : Program} {w : World} {A : Around} {Q E : Value → Shared → Prop} {s : Shared} {c : Bool} (h : Q (.bool false) s) : wpAny (model prog w) A (compareOp .NotEq (.bool c) (.bool c)) Q E s := by
  refine ne_bool ?_
  rw [show (c != c) = false by simp]
  exact h
theorem enum_end {g h' : Heap} {L src lf sl I : Addr} {m' : Str → Option Value} {it it2 o2 : Obj} {NX all : List (Addr × Obj)} {vs : List Value} {x : Int} {tx : Tok} {k tk : Nat} {r : List Itm} {s₁ : Shared}
    (F : Fr g L h' m') (N : News g L h' all) (hsub : ∀ p ∈ (I + 1, it) :: (I, it2) :: NX, p ∈ all) (hI : ∀ p ∈ NX, p.1 < I) (hm : (lf, o2) ∈ NX) (hx : r = enumItems (k + 1) (vs.drop (k + 1))) (hk : k < vs.length)
    (ms : m' (Str.ofString "source") = some (.ref src)) (mf : m' (Str.ofString "faces") = some (.ref lf)) (mc : m' (Str.ofString "script") = some (.ref sl)) (ma : m' (Str.ofString "address") = some (.int x tx)) :
    UnrEndW g L s₁ [(I + 1, it), (I, it2)] (fun m' n' => SubL [(lf, o2)] n' ∧ EnumJ src lf sl x tx NX vs r m' n') { s₁ with heap := h', toks := tk } := by
  refine ⟨h', tk, m', NX, rfl, F, news_sub N hsub, ?_, ⟨hm, trivial⟩, k + 1, hk, rfl, hx, ms, mf, mc, ma⟩
  intro p hp q hq
  have h1 : @LT.lt Nat _ p.1 I := hI p hp
  rcases List.mem_cons.mp hq with rfl | hq
  · exact Nat.ne_of_lt (Nat.lt_succ_of_lt h1)
  · rw [List.mem_singleton.mp hq]; exact Nat.ne_of_lt h1
theorem ask_sub {a b c d e : Addr × Obj} {nx T T4 : List (Addr × Obj)} (h : nx = a :: b :: c :: d :: e :: T) (s : ∀ p ∈ T, p ∈ T4) : ∀ p ∈ nx, p ∈ a :: b :: c :: d :: e :: T4 := by
  intro p hp
  rw [h] at hp
  simp only [List.mem_cons] at hp ⊢
  rcases hp with h | h | h | h | h | h
  · exact .inl h
  · exact .inr (.inl h)
  · exact .inr (.inr (.inl h))
  · exact .inr (.inr (.inr (.inl h)))
  · exact .inr (.inr (.inr (.inr (.inl h))))
  · exact .inr (.inr (.inr (.inr (.inr (s _ h)))))

theorem id_pack {h₀ h : Heap} {L src l ld cB cL : Addr} {o ol oB oL : Obj} {q1 q2 q3 q4 q5 y : Int} {k1 k2 k3 k4 k5 ty : Tok} {e1 e2 e3 e4 : Value} {T3 : List (Addr × Obj)}
    (N : News h₀ L h ((src, o) :: (l, ol) :: (ld, layD q1 q2 q3 q4 q5 k1 k2 k3 k4 k5 e1 e2 e3 e4 y ty) :: (cB, oB) :: (cL, oL) :: T3)) (hcB : oB.data = .cell (some (.int y ty))) (hy : 0 ≤ y ∧ y < 65536) (ho : SrcOk o) :
    ∃ (o3 oB3 : Obj) (y3 : Int) (t3 : Tok), News h₀ L h ((ld, layD q1 q2 q3 q4 q5 k1 k2 k3 k4 k5 e1 e2 e3 e4 y3 t3) :: (src, o3) :: (cB, oB3) :: (cL, oL) :: T3) ∧ oB3.data = .cell (some (.int y3 t3)) ∧ 0 ≤ y3 ∧ y3 < 65536 ∧ SrcOk o3 := by
  refine ⟨o, oB, y, ty, news_sub N ?_, hcB, hy.1, hy.2, ho⟩
  intro p hp
  simp only [List.mem_cons] at hp ⊢
  rcases hp with h | h | h
  · exact .inr (.inr (.inl h))
  · exact .inl h
  · exact .inr (.inr (.inr h))
def identZ (y : Int) : Nat → Int
  | 0 => y
  | n + 1 => (identZ y n + 1).fmod 65536
def identsZ (y : Int) (i : Nat) : List Int := (List.range i).map fun j => identZ y (j + 1)
def IdJ (ld : Addr) (q1 q2 q3 q4 q5 : Int) (k1 k2 k3 k4 k5 : Tok) (e1 e2 e3 e4 : Value) (y : Int) (NR : List (Addr × Obj)) (i : Nat) (ys : List Value) (nx : List (Addr × Obj)) : Prop :=
  ∃ ti, nx = (ld, layD q1 q2 q3 q4 q5 k1 k2 k3 k4 k5 e1 e2 e3 e4 (identZ y i) ti) :: NR ∧ IntsAre ys (identsZ y i)
theorem id_end {g0 h' : Heap} {L ld I C D : Addr} {m : Str → Option Value} {oI oC oo : Obj} {NR : List (Addr × Obj)} {ys : List Value} {q1 q2 q3 q4 q5 y : Int} {k1 k2 k3 k4 k5 t t' : Tok} {e1 e2 e3 e4 : Value} {i tk : Nat} {s₁ : Shared}
    (F : Fr g0 L h' m) (N : News g0 L h' ((ld, layD q1 q2 q3 q4 q5 k1 k2 k3 k4 k5 e1 e2 e3 e4 ((identZ y i + 1).fmod 65536) t') :: (I, oI) :: (C, oC) :: (D, LCg.lst ys) :: NR)) (hra : IntsAre ys (identsZ y i)) (off : LCg.Off3 I C D ((ld, oo) :: NR)) :
    LCg.CompEnd g0 L m s₁ I oI C oC D (LCg.lst ys) (fun _ => True) (fun y' nx' => IdJ ld q1 q2 q3 q4 q5 k1 k2 k3 k4 k5 e1 e2 e3 e4 y NR (i + 1) (ys ++ [y']) nx') (.int ((identZ y i + 1).fmod 65536) t) { s₁ with heap := h', toks := tk } := by
  refine LCg.CompEnd.intro F N ((ld, layD q1 q2 q3 q4 q5 k1 k2 k3 k4 k5 e1 e2 e3 e4 (identZ y (i + 1)) t') :: NR) ?_ ⟨off.1, off.2⟩ trivial ⟨t', rfl, ?_⟩
  · intro p hp
    simp only [List.mem_cons] at hp ⊢
    rcases hp with h | h | h | h | h
    · exact .inr (.inl h)
    · exact .inr (.inr (.inl h))
    · exact .inr (.inr (.inr (.inl h)))
    · exact .inl h
    · exact .inr (.inr (.inr (.inr h)))
  · rw [identsZ, List.range_succ, List.map_append]
    exact IntsAre.append hra (.cons _ _ .nil)
def begsZ (y : Int) (i : Nat) : List Int := (List.range i).map fun (j : Nat) => (y + (0 + (j : Int)) + 1).fmod 65536
def BegJ (y : Int) (NX : List (Addr × Obj)) (i : Nat) (ys : List Value) (nx : List (Addr × Obj)) : Prop := nx = NX ∧ IntsAre ys (begsZ y i)
theorem beg_end {g0 h' : Heap} {L I C D : Addr} {m : Str → Option Value} {oI oC : Obj} {NX : List (Addr × Obj)} {ys : List Value} {y : Int} {t : Tok} {i tk : Nat} {s₁ : Shared}
    (F : Fr g0 L h' m) (N : News g0 L h' ((I, oI) :: (C, oC) :: (D, LCg.lst ys) :: NX)) (hra : IntsAre ys (begsZ y i)) (off : LCg.Off3 I C D NX) :
    LCg.CompEnd g0 L m s₁ I oI C oC D (LCg.lst ys) (fun _ => True) (fun y' nx' => BegJ y NX (i + 1) (ys ++ [y']) nx') (.int ((y + (0 + (i : Int)) + 1).fmod 65536) t) { s₁ with heap := h', toks := tk } := by
  refine LCg.CompEnd.intro F N NX (fun p hp => hp) off trivial ⟨rfl, ?_⟩
  rw [begsZ, List.range_succ, List.map_append]
  exact IntsAre.append hra (.cons _ _ .nil)
theorem begs_ident {y : Int} (h0 : 0 ≤ y) (h1 : y < 65536) : identsZ y 4 = begsZ y 4 := by
  have e : ∀ a : Int, a.fmod 65536 = a % 65536 := fun a => Int.fmod_eq_emod_of_nonneg a (by decide)
  simp only [identsZ, begsZ, identZ, e, List.range, List.range.loop, List.map_cons, List.map_nil, List.cons.injEq, and_true]
  refine ⟨?_, ?_, ?_, ?_⟩ <;> omega
theorem off_all {I C D ld : Addr} {oo : Obj} {T : List (Addr × Obj)} {oI oC oD : Obj} (off : LCg.Off3 I C D ((ld, oo) :: T)) (h : ∀ p ∈ T, p.1 ≠ ld) : ∀ p ∈ (I, oI) :: (C, oC) :: (D, oD) :: T, p.1 ≠ ld := by
  obtain ⟨a, b, c⟩ := off.1
  exact cons3 (Ne.symm a) (Ne.symm b) (Ne.symm c) h

theorem ne_bool_eq {prog : Program} {w : World} {A : Around} {Q E : Value → Shared → Prop} {s : Shared} {c d : Bool} (e : c = d) (h : Q (.bool false) s) : wpAny (model prog w) A (compareOp .NotEq (.bool c) (.bool d)) Q E s := by
  subst e
  exact ne_bool_same h
theorem ne_same_ints {prog : Program} {w : World} {A : Around} {E : Value → Shared → Prop} {s : Shared} {a b : Addr} {vs us : List Value} {ns : List Int} {Q : Value → Shared → Prop} (hl : s.heap.get? a = some (LCg.lst vs)) (hl' : s.heap.get? b = some (LCg.lst us)) (hi : IntsAre vs ns) (hi' : IntsAre us ns) (hu : A.units + 64 < cLine)
    (h : Q (.bool false) s) : wpAny (model prog w) A (compareOp .NotEq (.ref a) (.ref b)) Q E s := by
  refine ne_intsK ⟨_, hl, rfl, _, rfl⟩ hi ⟨_, hl', rfl, _, rfl⟩ hi' hu ?_
  simpa using h

end
/- part V1 -/
section
section
local macro_rules | `(tactic| k_all) => `(tactic| first | exact allLt_ne (by assumption) | exact allLt_ne (And.right (by assumption)) | exact allLt_ne (And.right (And.right (by assumption))) | exact allLt_ne (And.right (And.right (And.right (by assumption)))) | exact allLt_ne (And.right (And.right (And.right (And.right (by assumption))))) | exact allLt_ne (And.right (And.right (And.right (And.right (And.right (by assumption)))))) | exact allLt_ne (And.right (And.right (And.right (And.right (And.right (And.right (by assumption))))))) | exact allLt_ne (And.right (And.right (And.right (And.right (And.right (And.right (And.right (by assumption)))))))) | exact allLt_ne (And.right (And.right (And.right (And.right (And.right (And.right (And.right (And.right (by assumption))))))))))
local macro_rules | `(tactic| k_all) => `(tactic| assumption)
local macro_rules | `(tactic| walk_at "exec For Name Call cons nil") => `(tactic| (k_dflt (refine Stop.out ?_)))
local macro_rules | `(tactic| walk_at "call type:range") => `(tactic| (k_dflt (refine Stop.out ?_)))
local macro_rules | `(tactic| walk_at "eval ListComp") => `(tactic| (k_dflt (refine Stop.out ?_)))
local macro_rules | `(tactic| walk_at "call ref") => `(tactic| (k_here; (with_reducible show wpAny _ _ (call (Value.ref 266) _) _ _ _); k_dflt (refine' pool_use ?k1 ?k2 ?k3 ?k4 ?k5 ?k6 ?k7 ?k8 ?k9 ?k10 ?k11 ?k12 ?k13 ?_; (case k1 => k_asm); (case k2 => k_asm); (case k3 => k_asm); (case k4 => k_asm); (case k5 => k_asm); (case k6 => first | exact rfl | assumption); (case k7 => assumption); (case k8 => assumption); (case k9 => omega); (case k10 => omega); (case k11 => omega); (case k12 => ktr_room); (case k13 => ktr_units)); intro src' o' h' tk' ho' hn' F' N'; (obtain ⟨ha', hn'⟩ := List.forall_mem_cons.mp hn'); (obtain ⟨hb', hn'⟩ := List.forall_mem_cons.mp hn'); (replace ha' := neN ha'); (replace hb' := neN hb'); dsimp only at ha' hb'))
local macro_rules | `(tactic| walk_at "call ref") => `(tactic| (k_here; (with_reducible show wpAny _ _ (call (Value.ref 306) _) _ _ _); k_dflt (refine' faces_use ?k1 ?k2 ?k3 ?k4 ?k5 ?k6 ?k7 ?k8 ?k9 ?k10 ?k11 ?k12 ?k13 ?k14 ?k15 ?_; (case k1 => k_asm); (case k2 => k_asm); (case k3 => k_asm); (case k4 => k_asm); (case k5 => k_asm); (case k6 => first | exact rfl | assumption); (case k7 => assumption); (case k8 => assumption); (case k9 => assumption); (case k10 => assumption); (case k11 => assumption); (case k12 => assumption); (case k13 => assumption); (case k14 => ktr_room); (case k15 => ktr_units)); intro lf' fs' vs' n' o' T2' h' tk' ho' hTT' hTs' hTB' hTL' hlf' hfa' hf1' hf3' hfo' F' N'))
local macro_rules | `(tactic| walk_at "CompSrc") => `(tactic| (k_dflt (refine Stop.out ?_)))
local macro_rules | `(tactic| walk_at "SrcLP") => `(tactic| (k_dflt (refine Stop.out ?_)))
local macro_rules | `(tactic| walk_at "call ref") => `(tactic| (k_here; (with_reducible show wpAny _ _ (call (Value.ref 148) _) _ _ _); k_dflt (refine' call_cls ?k1 ?k2 ?k3 ?k4 ?k5 ?k6 ?_; (case k1 => k_asm); (case k2 => k_asm); (case k3 => k_asm); (case k4 => k_is); (case k5 => k_is); (case k6 => k_is); k_whole; intro x' d' h' F' N' l1 l2; (try k_lt l1); (try k_lt2 l2); (try k_sweep); k_enter)))
local macro_rules | `(tactic| walk_at "call ref") => `(tactic| (k_here; (with_reducible show wpAny _ _ (call (Value.ref 255) _) _ _ _); k_dflt (refine' call_cls ?k1 ?k2 ?k3 ?k4 ?k5 ?k6 ?_; (case k1 => k_asm); (case k2 => k_asm); (case k3 => k_asm); (case k4 => k_is); (case k5 => k_is); (case k6 => k_is); k_whole; intro x' d' h' F' N' l1 l2; (try k_lt l1); (try k_lt2 l2); (try k_sweep); k_enter)))
local macro_rules | `(tactic| walk_at "pyIter ref") => `(tactic| (k_dflt (refine Stop.out ?_)))
local macro_rules | `(tactic| walk_at "call ref") => `(tactic| (k_here; (with_reducible show wpAny _ _ (call (Value.ref 313) _) _ _ _); k_dflt (refine' runs_use ?k1 ?k2 ?k3 ?k4 ?k5 ?k6 (asked_runs ?c1 ?c2 ?c3 ?c4 ?c5 ?c6) ?k7 ?k8 ?_; (case k1 => k_asm); (case k2 => k_asm); (case k3 => k_asm); (case k4 => k_asm); (case k5 => k_asm); (case k6 => first | exact rfl | assumption); (case k7 => ktr_room); (case k8 => ktr_units); (case c1 => exact cons3 (by assumption) (by assumption) (by assumption) (by assumption)); (case c2 => assumption); (case c4 => exact FacesAre.mono (by assumption) (fun p hp => .tail _ (.tail _ (.tail _ hp)))); (case c3 => k_mem); (case c5 => assumption); (case c6 => assumption)); intro r' news' h' tk' F' N' hO'; (obtain ⟨fd', ws', ns', n', o', er', en', ho', hfd', hi', hnl', hnb'⟩ := hO'); subst er'; subst en'))
local macro_rules | `(tactic| walk_at "call ref") => `(tactic| (k_here; (with_reducible show wpAny _ _ (call (Value.ref 188) _) _ _ _); k_dflt (refine' runs_use ?k1 ?k2 ?k3 ?k4 ?k5 ?k6 (own_runs ?c1 ?c2 ?c3 ?c4) ?k7 ?k8 ?_; (case k1 => k_asm); (case k2 => k_asm); (case k3 => k_asm); (case k4 => k_asm); (case k5 => k_asm); (case k6 => first | exact rfl | assumption); (case k7 => ktr_room); (case k8 => ktr_units); (case c1 => k_mem); (case c2 => k_mem); (case c3 => k_mem); (case c4 => assumption)); intro r' news' h' tk' F' N' hO'; (obtain ⟨er', en'⟩ := hO'); subst er'; subst en'))
local macro_rules | `(tactic| walk_at "exec For Tuple Call cons nil") => `(tactic| (k_dflt (refine Stop.out ?_)))
local macro_rules | `(tactic| walk_at "call type:enumerate") => `(tactic| (k_dflt (refine Stop.out ?_)))
local macro_rules | `(tactic| walk_at "call ref") => `(tactic| (k_here; (with_reducible show wpAny _ _ (call (Value.ref 195) _) _ _ _); k_dflt (refine' runs_use ?k1 ?k2 ?k3 ?k4 ?k5 ?k6 (told_runs2 ?c1 ?c2 ?c3 ?c4 ?c5 ?c6 ?c7 ?c8 ?c9 ?c10 ?c11 ?c12 ?c13 ?c14) ?k7 ?k8 ?_; (case k1 => k_asm); (case k2 => k_asm); (case k3 => k_asm); (case k4 => k_asm); (case k5 => k_asm); (case k6 => first | exact rfl | assumption); (case k7 => ktr_room); (case k8 => ktr_units); (case c1 => k_mem); (case c2 => k_mem); (case c3 => k_mem); (case c6 => assumption); (case c7 => k_mem); (case c8 => k_mem); (case c4 => omega); (case c5 => omega); (case c9 => assumption); (case c10 => assumption); (case c11 => assumption); (case c12 => assumption); (case c13 => assumption); (case c14 => assumption)); intro r' news' h' tk' F' N' hO'; (obtain ⟨bz', er', hbz', en'⟩ := hO'); subst er'; subst en'))
local macro_rules | `(tactic| walk_at "call ref") => `(tactic| (k_here; (with_reducible show wpAny _ _ (call (Value.ref 299) _) _ _ _); k_dflt (refine' runs_use ?k1 ?k2 ?k3 ?k4 ?k5 ?k6 (forall_runs2 ?c1 ?c8 ?c2 ?c3 ?c4 ?c5 ?c6 ?c7) ?k7 ?k8 ?_; (case k1 => k_asm); (case k2 => k_asm); (case k3 => k_asm); (case k4 => k_asm); (case k5 => k_asm); (case k6 => first | exact rfl | assumption); (case k7 => ktr_room); (case k8 => ktr_units); (case c1 => k_mem); (case c8 => assumption); (case c2 => assumption); (case c3 => assumption); (case c4 => assumption); (case c5 => assumption); (case c6 => assumption); (case c7 => assumption)); intro r' news' h' tk' F' N' hO'; (obtain ⟨er', en'⟩ := hO'); subst er'; subst en'; (rename (_ : Bool) = castZ _ _ _ => hbz'); clear hbz'))
local macro_rules | `(tactic| walk_at "compareOp NotEq bool bool") => `(tactic| (k_dflt (refine Stop.out ?_)))
local macro_rules | `(tactic| walk_at "compareOp NotEq bool bool") => `(tactic| (with_reducible refine ne_bool_same ?_))
local macro_rules | `(tactic| walk_at "compareOp NotEq ref ref") => `(tactic| (k_dflt (refine Stop.out ?_)))
local macro_rules | `(tactic| walk_at "callWith ref") => `(tactic| (k_here; (with_reducible show wpAny _ _ (callWith _ _ _ (backTo _ (starEach [] _)) []) _ _ _); k_dflt (refine' callWith_K0 ?k1 ?k2 ?_; (case k1 => k_in); (case k2 => k_is); k_whole)))
local macro_rules | `(tactic| k_all) => `(tactic| (exact cons3 (by assumption) (by assumption) (by assumption) (by assumption)))
local macro_rules | `(tactic| walk_at "call ref") => `(tactic| (k_here; (with_reducible show wpAny _ _ (call (Value.ref 273) _) _ _ _); k_dflt (refine' take_use ?k1 ?k2 ?k3 ?k4 ?k5 ?k6 ?k7 ?k8 ?k9 ?k10 ?k11 ?k12 ?_; (case k1 => k_asm); (case k2 => k_asm); (case k3 => k_asm); (case k4 => k_asm); (case k5 => k_asm); (case k6 => first | exact rfl | assumption); (case k7 => k_mem); (case k8 => assumption); (case k9 => omega); (case k10 => omega); (case k11 => ktr_room); (case k12 => ktr_units); intro x' t' o' h' tk' hx0' hx1' ho' F' N')))
local macro_rules | `(tactic| walk_at "call ref") => `(tactic| (k_here; (with_reducible show wpAny _ _ (call (Value.ref 280) _) _ _ _); k_dflt (refine' one_use ?k1 ?k2 ?k3 ?k4 ?k5 ?k6 ?k7 ?k8 ?k9 ?k10 ?k11 ?k12 ?k13 ?k14 ?_; (case k1 => k_asm); (case k2 => k_asm); (case k3 => k_asm); (case k4 => k_asm); (case k5 => k_asm); (case k6 => first | exact rfl | assumption); (case k7 => k_mem); (case k8 => assumption); (case k9 => k_mem); (case k10 => l_ints); (case k11 => exact Nat.le_of_ble_eq_true rfl); (case k12 => exact Nat.le_of_ble_eq_true rfl); (case k13 => ktr_room); (case k14 => ktr_units); intro x' t' o' h' tk' hx' ho' F' N'); (try simp only [List.mem_cons, List.not_mem_nil, or_false] at hx'); (first | (have hy' : 0 ≤ x' ∧ x' ≤ 32 := by omega) | (have hy' : 0 ≤ x' ∧ x' < 65536 := by omega) | (have hy' : 0 ≤ x' ∧ x' < 4294967296 := by omega)); clear hx'))
local macro_rules | `(tactic| walk_at "call ref") => `(tactic| (k_here; (with_reducible show wpAny _ _ (call (Value.ref 181) _) _ _ _); k_dflt (refine' runs_use ?k1 ?k2 ?k3 ?k4 ?k5 ?k6 (ident_runs ?c1 ?c2) ?k7 ?k8 ?_; (case k1 => k_asm); (case k2 => k_asm); (case k3 => k_asm); (case k4 => k_asm); (case k5 => k_asm); (case k6 => first | exact rfl | assumption); (case k7 => ktr_room); (case k8 => ktr_units); (case c1 => assumption); (case c2 => k_mem)); intro r' news' h' tk' F' N' hO'; (obtain ⟨ti', ti2', er', en'⟩ := hO'); subst er'; subst en'))
local macro_rules | `(tactic| walk_at "call ref") => `(tactic| (k_here; (with_reducible show wpAny _ _ (call (Value.ref 327) _) _ _ _); k_dflt (refine' runs_use ?k1 ?k2 ?k3 ?k4 ?k5 ?k6 (right_runs ?c1 ?c2) ?k7 ?k8 ?_; (case k1 => k_asm); (case k2 => k_asm); (case k3 => k_asm); (case k4 => k_asm); (case k5 => k_asm); (case k6 => first | exact rfl | assumption); (case k7 => ktr_room); (case k8 => ktr_units); (case c1 => assumption); (case c2 => assumption)); intro r' news' h' tk' F' N' hO'; (obtain ⟨o', er', ho', en'⟩ := hO'); subst er'; subst en'))
theorem law0 : PySem.Challenge.rw_on0346_01.Holds := hd (by
  k_go0
  all_goals try k_fold
  k_steps
  refine Stop.on ?_
  (with_unfolding_all refine' For_invVF (by assumption) ?k1 ?k2 ?_; (case k1 => exact rfl); (case k2 => exact rfl); k_whole)
  k_steps
  refine Stop.on ?_
  refine range1_rows (by assumption) (by assumption) ?_
  intro h1 tk1 t1 u1 v1 hR F1 N1 hk1
  rename Heap.IsList _ _ _ => hsl
  obtain ⟨sl, esl⟩ := name_list hsl
  subst esl
  rename IntsAre _ _ => hints
  rename ¬ ((63 : Nat) : Int) < _ => hlen
  rename CellsAre _ _ _ => xx
  clear xx
  rename Shared => S1
  rename List Int => ns0
  have hE := law_end (n := ns0.length)
  rename TopE .. => xx; clear xx
  rename TopW .. => xx; clear xx
  rename BMod .. => xx; clear xx
  rename Heap.CodeRec .. => xx; clear xx
  rename Glob .. => xx; clear xx
  rename LooseAre .. => xx; clear xx
  rename Dflts .. => xx; clear xx
  rename Reads .. => xx; clear xx
  rename Well .. => xx; clear xx
  rename ReadsAll .. => xx; clear xx
  rename ReadsAllW .. => xx; clear xx
  refine range_inv (LawJ (S1.heap.objs.size + 1) (S1.heap.objs.size + 1 + 1) sl) rfl hR (small_one (by decide) (by decide) (by omega) (by omega)) (rangeSize_nat _ _) F1 N1 ⟨by with_unfolding_all rfl, _, _, _, _, [], rfl, by assumption, by assumption, fun h => absurd h (Nat.lt_irrefl 0)⟩ ?_ ?_
  · rintro i t m₁ nx h tk own hi hoff ⟨ms, oL, oB, vL, vB, tl, rfl, hcL, hcB, -⟩ F₁ N₁
    have hi2 : i < 2 := by omega
    rw [map_knows ms] at F₁
    have hoB : ∀ p ∈ own, p.1 ≠ S1.heap.objs.size + 1 + 1 := fun p hp => hoff p hp _ (by simp)
    have hoL : ∀ p ∈ own, p.1 ≠ S1.heap.objs.size + 1 := fun p hp => hoff p hp _ (by simp)
    have hcc : S1.heap.objs.size + 1 + 1 ≠ S1.heap.objs.size + 1 := by omega
    have N₂ := news_sub (l' := (S1.heap.objs.size + 1 + 1, oB) :: (S1.heap.objs.size + 1, oL) :: own) N₁ (by
      intro p hp
      simp only [List.mem_cons, List.cons_append, List.mem_append] at hp ⊢
      rcases hp with h | h | h
      · exact .inl h
      · exact .inr (.inl h)
      · exact .inr (.inr (.inr h)))
    clear N₁
    k_steps
    rename FacesAre _ _ _ => hfa
    obtain ⟨T, vs, fs, e1, e2, e3⟩ := name_faces hfa
    subst e1 e2 e3
    rename News _ _ _ _ => NN
    obtain ⟨src, o', e1, e2⟩ := name_src NN
    subst e1 e2
    rename (_, _) ∈ T => hlf
    obtain ⟨lf, nf, e1, e2⟩ := name_mem hlf
    subst e1 e2
    refine Stop.on ?_
    refine LCp.ListComp_P (F₀ := by assumption) (by with_unfolding_all rfl) (by decide) (by rfl) (by decide) (by rfl) (by rfl) (by decide) ?_
    k_steps
    refine Stop.on ?_
    have hvs : vs.length = fs.length := hfa.1
    rename FacesOk _ => hfo
    rename fs.length ≤ 3 => hf3
    refine LCp.SrcLP.ledger (by rfl) (by assumption) NN (.tail _ (.tail _ (.tail _ hlf))) (by rw [List.size_toArray, sizeLine_eq]; omega) ?_
    intro g
    refine compP_inv (vs.toArray.size) (RowsJ src (S1.heap.objs.size + 1 + 1) (S1.heap.objs.size + 1) o' oB oL T fs) ?_ ?_ _ 0 [] _ rfl ⟨T, rfl, fun _ h => h, by assumption, by assumption, by assumption, by simp, fun i v e => by simp at e⟩
    · rintro i ys nx hi ⟨T', rfl, hTT, hTs, hTB, hTL, hra⟩ v hv
      obtain ⟨⟨fa, fp⟩, fc, ta, tp, nn, hf, rfl, hfm⟩ := hfa.2 i v (by simpa using hv)
      refine ⟨fc, _, _, _, nn, rfl, .tail _ (.tail _ (.tail _ (hTT _ hfm))), rfl, rfl, ?_⟩
      intro I oI C oC D m₂ h tk E' hC hx hx2 F N off ne
      have off0 := off
      simp only [LCg.Off3] at off
      k_steps
      exact rows_end (by assumption) (by assumption) hlf hTT hTs hTB hTL hra hf off0 (by assumption) (by assumption)
    · rintro ys nx ⟨T', rfl, hTT, hTs, hTB, hTL, hra⟩ D h tk F N o1
      simp only [LCg.Off1] at o1
      k_steps
      rename (_ : Obj).data = Data.cell (some (Value.ref _)) => hcl
      obtain ⟨oL2, lay, e1, e2⟩ := name_cell hcl
      subst e1 e2
      rename News _ _ _ _ => NN
      rename _ ∧ _ => l1
      rename (_ : Nat) < _ => l2
      obtain ⟨T3, q1, q2, q3, q4, q5, li, k1, k2, k3, k4, k5, lt, e2, e3, e4, nD, NN', hm1, hm2, hTT3, hfa3, hra3, hlf3, hT3s, hT3d, hT3B, hT3L, n1, n2, n3, n4, n5, n6, hlay⟩ := lay_pack NN l1 l2 o1 hTs hTB hTL hTT hfa hra hvs hlf
      clear NN
      refine Stop.on ?_
      (with_unfolding_all refine' For_invVF (by assumption) ?k1 ?k2 ?_; (case k1 => exact rfl); (case k2 => exact rfl); k_whole)
      k_steps
      refine Stop.on ?_
      rename News _ _ _ _ => NN
      obtain ⟨fd, ws, nn, o2, E1, E2, E3, E4⟩ := name_news4 NN
      subst E1 E2 E3 E4
      obtain ⟨ld, E1⟩ := name_inst hm1
      subst E1
      rename IntsAre ws _ => hws
      rename SrcOk o2 => ho2
      rename ∀ x ∈ _, 0 ≤ x ∧ x < 4294967296 => hwb
      obtain ⟨NX, eX⟩ : ∃ NX, NX = (fd, listOf ws.toArray nn) :: (src, o2) :: (ld, layD q1 q2 q3 q4 q5 k1 k2 k3 k4 k5 (Value.ref D) e2 e3 e4 li lt) :: (S1.heap.objs.size + 1 + 1, oB) :: (S1.heap.objs.size + 1, oL2) :: T3 := ⟨_, rfl⟩
      refine kdl_iter (nn := nn) (vs := ws) (fun i m₁ nx => AskJ src lf sl NX m₁ nx) (by rfl) (.head _) (by assumption) NN ⟨eX.symm, by with_unfolding_all rfl, by with_unfolding_all rfl, by with_unfolding_all rfl⟩ ?_ ?_
      · rintro j v m₁ nx h tk own2 hv hoff2 hmem ⟨E1, ms, mf, mc⟩ F₁ N₁
        obtain ⟨x, tx, rfl, hx⟩ := ints_at hws hv
        obtain ⟨hx0, hx1⟩ := hwb _ hx
        subst E1
        rw [map_knows3 ms mf mc] at F₁
        rw [eX] at N₁
        obtain ⟨T4, E4, s3, s4, N₂⟩ := ask_ledger N₁
        clear N₁
        have hm1' := s3 _ hm1
        have hm2' := s3 _ hm2
        have hfa4 := hfa3.mono s3
        have hra4 : RowsAre ((fd, listOf ws.toArray nn) :: (src, o2) :: (ld, layD q1 q2 q3 q4 q5 k1 k2 k3 k4 k5 (Value.ref D) e2 e3 e4 li lt) :: (S1.heap.objs.size + 1 + 1, oB) :: (S1.heap.objs.size + 1, oL2) :: T4) ys fs := hra3.mono fun p hp => .tail _ (.tail _ (.tail _ (.tail _ (.tail _ (s3 _ hp)))))
        have hlf4 := s3 _ hlf3
        k_steps
        refine Stop.on ?_
        refine LCg.ListComp_U (F₀ := by assumption) (by with_unfolding_all rfl) (by decide) (by rfl) (by decide) (by rfl) ?_
        k_steps
        refine Stop.on ?_
        rename News _ _ _ _ => NN2
        refine LCg.CompSrc.ledger (by rfl) (by assumption) NN2 (.tail _ (.tail _ (.tail _ (.tail _ (.tail _ hlf4))))) (by rw [List.size_toArray, sizeLine_eq]; omega) ?_
        intro g2
        refine comp_inv (vs.toArray.size) (AdrJ fs _) ?_ ?_ _ 0 [] _ rfl ⟨rfl, .nil⟩
        · rintro i2 zs nx2 hi3 ⟨rfl, hzi⟩ v2 I oI C oC D2 m₂ h2 tk2 E' hP hC hx2 F N off ne
          obtain ⟨⟨fa, fp⟩, fc, ta, tp, n9, hf, rfl, hfm⟩ := hfa4.2 i2 v2 (by simpa using hP)
          have off0 := off
          simp only [LCg.Off3] at off
          k_steps
          exact adr_end (by assumption) (by assumption) (by k_mem) hzi hf off0
        · rintro zs nx2 ⟨rfl, hzi⟩ D2 h2 tk2 F N o12
          simp only [LCg.Off1] at o12
          k_steps
          refine Stop.on ?_
          refine ne_bool_eq (own_same hvs) ?_
          k_steps
          refine Stop.on ?_
          (with_unfolding_all refine' For_turns (by assumption) ?_)
          k_steps
          refine Stop.on ?_
          rename News _ _ _ _ => NN3
          refine ktu_enum (n := nf) (vs := vs) (lo := listOf vs.toArray nf) (by rfl) (by assumption) (news_sub NN3 (fun p hp => .tail _ hp)) (.tail _ (.tail _ (.tail _ (.tail _ (.tail _ hlf4))))) rfl rfl rfl ?_
          intro I hI
          refine items_inv (EnumJ src lf sl x tx _ vs) ?_ ?_ _ _ _ ⟨0, Nat.zero_le _, rfl, rfl, by with_unfolding_all rfl, by with_unfolding_all rfl, by with_unfolding_all rfl, by with_unfolding_all rfl⟩
          · rintro a r m₁ nx v h tk ⟨k9, hk9, rfl, hxs, ms, mf, mc, ma⟩ ha F₁
            obtain ⟨v0, hv0, rfl, hxs2⟩ := enum_cons hxs
            obtain ⟨T9, t9, rfl, hT9⟩ := ha
            obtain ⟨⟨fa, fp⟩, fc, ta, tp, n9, hf, rfl, hfm⟩ := hfa4.2 k9 _ hv0
            obtain ⟨f1, f2, f3, f4⟩ := hfo _ (List.mem_of_getElem? hf)
            obtain ⟨rw9, rd9, g1, g2, g3, g4, g5, g6, g7, g8, g9, hy9, hrw9, hrd9⟩ := row_at hra4 hf
            dsimp only at f1 f2 f3 f4 hfm
            have hk3 : k9 < fs.length := (List.getElem?_eq_some_iff.mp hf).1
            intro it hit it2 hit2 N₁
            rw [map_knows4 ms mf mc ma] at F₁
            simp only [List.cons_append, List.nil_append] at N₁
            k_steps
            exact enum_end (by assumption) (by assumption) (by intro p hp; repeat (first | exact hp | refine List.Mem.tail _ ?_)) hI (.tail _ (.tail _ (.tail _ (.tail _ (.tail _ hlf4))))) hxs2 (by omega) (by with_unfolding_all rfl) (by with_unfolding_all rfl) (by with_unfolding_all rfl) (by with_unfolding_all rfl)
          · rintro m₁ nx2 h tk ⟨k9, hk9, rfl, hxs, ms, mf, mc, ma⟩ F₁ N₁
            rw [map_knows4 ms mf mc ma] at F₁
            k_steps
            exact ⟨_, _, _, _, nx, rfl, by assumption, by assumption, ask_sub eX s3, fun p hp => .tail _ (.tail _ (.tail _ (.tail _ (.tail _ (s4 _ hp))))), hoff2, hmem, rfl, by with_unfolding_all rfl, by with_unfolding_all rfl, by with_unfolding_all rfl⟩
      · rintro m₁ nx h tk ⟨E1, ms, mf, mc⟩ F₁ N₁
        subst E1
        rw [map_knows3 ms mf mc] at F₁
        rw [eX] at N₁
        have N₂ := news_sub N₁ fun p hp => .tail _ hp
        clear N₁ NN NN' F1
        k_steps
        refine Stop.on ?_
        rename News _ _ _ _ => NN4
        obtain ⟨o3, oB3, y3, t3, N5, hcB3, hy0, hy1, ho3⟩ := id_pack NN4 (by assumption) (by assumption) (by assumption)
        clear NN4 N₂
        have hNR : ∀ p ∈ (src, o3) :: (S1.heap.objs.size + 1 + 1, oB3) :: (S1.heap.objs.size + 1, oL2) :: T3, p.1 ≠ ld := cons3 (Ne.symm n1) n2 n3 hT3d
        refine LCg.ListComp_U (F₀ := by assumption) (by with_unfolding_all rfl) (by decide) (by rfl) (by decide) (by rfl) ?_
        k_steps
        refine Stop.on ?_
        refine range1_rows (by assumption) (by assumption) ?_
        intro h6 tk6 t6 u6 v6 hR6 F6 N6 hk6
        k_steps
        refine Stop.on ?_
        refine LCg.CompSrc.range (by rfl) (by assumption) N6 hR6 (small_one (by decide) (by decide) (by omega) (by omega)) (rangeSize_nat _ _) (by decide) ?_
        intro g6
        refine comp_inv _ (IdJ ld q1 q2 q3 q4 q5 k1 k2 k3 k4 k5 (Value.ref D) e2 e3 e4 y3 ((src, o3) :: (S1.heap.objs.size + 1 + 1, oB3) :: (S1.heap.objs.size + 1, oL2) :: T3)) ?_ ?_ _ 0 [] _ rfl ⟨_, rfl, .nil⟩
        · rintro i6 zs nx hi6 ⟨ti6, rfl, hzi⟩ v6 I oI C oC D2 m₂ h tk E' hP hC hx2 F N off ne
          have off0 := off
          simp only [LCg.Off3] at off
          have hrr := off_all (oI := oI) (oC := oC) (oD := LCg.lst zs) off0 hNR
          have N7 := news_sub (l' := (ld, layD q1 q2 q3 q4 q5 k1 k2 k3 k4 k5 (Value.ref D) e2 e3 e4 (identZ y3 i6) ti6) :: (I, oI) :: (C, oC) :: (D2, LCg.lst zs) :: (src, o3) :: (S1.heap.objs.size + 1 + 1, oB3) :: (S1.heap.objs.size + 1, oL2) :: T3) N (by
            intro p hp
            simp only [List.mem_cons] at hp ⊢
            rcases hp with h | h | h | h | h
            · exact .inr (.inr (.inr (.inl h)))
            · exact .inl h
            · exact .inr (.inl h)
            · exact .inr (.inr (.inl h))
            · exact .inr (.inr (.inr (.inr h))))
          clear N
          k_steps
          exact id_end (by assumption) (by assumption) hzi off0
        · rintro zs nx ⟨ti6, rfl, hzi⟩ D2 h2 tk2 F N o12
          simp only [LCg.Off1] at o12
          k_steps
          refine Stop.on ?_
          refine LCg.ListComp_U (F₀ := by assumption) (by with_unfolding_all rfl) (by decide) (by rfl) (by decide) (by rfl) ?_
          k_steps
          refine Stop.on ?_
          refine range1_rows (by assumption) (by assumption) ?_
          intro h6 tk6 t6 u6 v6 hR7 F7 N7 hk7
          k_steps
          refine Stop.on ?_
          refine LCg.CompSrc.range (by rfl) (by assumption) N7 hR7 (small_one (by decide) (by decide) (by omega) (by omega)) (rangeSize_nat _ _) (by decide) ?_
          intro g7
          refine comp_inv _ (BegJ y3 _) ?_ ?_ _ 0 [] _ rfl ⟨rfl, .nil⟩
          · rintro i6 xs nx hi6 ⟨rfl, hxi⟩ v6 I oI C oC D3 m₂ h tk E' hP hC hx2 F N off ne
            have off0 := off
            simp only [LCg.Off3] at off
            obtain ⟨t7, rfl⟩ := hP
            k_steps
            exact beg_end (by assumption) (by assumption) hxi off0
          · rintro xs nx ⟨rfl, hxi⟩ D3 h3 tk3 F N o13
            simp only [LCg.Off1] at o13
            have hzi4 : IntsAre zs (identsZ y3 4) := hzi
            have hxi4 : IntsAre xs (begsZ y3 4) := hxi
            have N8 : News _ _ h3 _ := news_sub (l' := (src, o3) :: (D3, LCg.lst xs) :: (D2, LCg.lst zs) :: (ld, layD q1 q2 q3 q4 q5 k1 k2 k3 k4 k5 (Value.ref D) e2 e3 e4 (identZ y3 4) ti6) :: (S1.heap.objs.size + 1 + 1, oB3) :: (S1.heap.objs.size + 1, oL2) :: T3) N (by
              intro p hp
              simp only [List.mem_cons] at hp ⊢
              rcases hp with h | h | h | h | h
              · exact .inr (.inr (.inr (.inl h)))
              · exact .inl h
              · exact .inr (.inl h)
              · exact .inr (.inr (.inl h))
              · exact .inr (.inr (.inr (.inr h))))
            clear N N7 N6 N5
            have hsr : ∀ p ∈ (D3, LCg.lst xs) :: (D2, LCg.lst zs) :: (ld, layD q1 q2 q3 q4 q5 k1 k2 k3 k4 k5 (Value.ref D) e2 e3 e4 (identZ y3 4) ti6) :: (S1.heap.objs.size + 1 + 1, oB3) :: (S1.heap.objs.size + 1, oL2) :: T3, p.1 ≠ src := List.forall_mem_cons.mpr ⟨Ne.symm o13.2.2.1, List.forall_mem_cons.mpr ⟨Ne.symm o12.2.1, cons3 n1 (by assumption) (by assumption) hT3s⟩⟩
            k_steps
            refine Stop.on ?_
            refine ne_same_ints (News.get N8 (by k_mem)) (News.get N8 (by k_mem)) hzi4 (by rw [begs_ident hy0 hy1]; exact hxi4) (by ktr_units) ?_
            k_steps
            have hown : ∀ p ∈ own, p ∈ T := by assumption
            refine ⟨_, _, _, _, [(S1.heap.objs.size + 1 + 1, oB3), (S1.heap.objs.size + 1, oL2), (ld, layD q1 q2 q3 q4 q5 k1 k2 k3 k4 k5 (Value.ref D) e2 e3 e4 (identZ y3 4) ti6), (lay, instObj 255 ld)], rfl, by assumption, by assumption, ?_, ?_, ?_, by with_unfolding_all rfl, oL2, oB3, _, _, _, rfl, hcl, hcB3, fun _ => ⟨lay, ld, q1, q2, q3, q4, q5, k1, k2, k3, k4, k5, Value.ref D, e2, e3, e4, _, _, rfl, rfl, Ne.symm n4, Ne.symm n3, Ne.symm n2, n6, n5⟩⟩
            · intro p hp
              simp only [List.mem_cons, List.not_mem_nil, or_false] at hp
              rcases hp with hp | hp | hp | hp <;> subst hp
              · repeat (first | exact List.Mem.head _ | refine List.Mem.tail _ ?_)
              · repeat (first | exact List.Mem.head _ | refine List.Mem.tail _ ?_)
              · repeat (first | exact List.Mem.head _ | refine List.Mem.tail _ ?_)
              · repeat (first | exact hm1 | refine List.Mem.tail _ ?_)
            · intro p hp
              have hp3 := hTT3 _ (hTT _ (hown p hp))
              repeat (first | exact hp3 | refine List.Mem.tail _ ?_)
            · intro p hp b hb
              have hp3 := hTT3 _ (hTT _ (hown p hp))
              simp only [List.map_cons, List.map_nil, List.mem_cons, List.not_mem_nil, or_false] at hb
              rcases hb with hb | hb | hb | hb
              · rw [hb]; exact hT3B p hp3
              · rw [hb]; exact hT3L p hp3
              · rw [hb]; exact hT3d p hp3
              · rw [hb]; exact hlay p (hTT _ (hown p hp))
  · rintro m₁ nx h tk ⟨ms, oL, oB, vL, vB, tl, rfl, hcL, hcB, hx⟩ F₁ N₁
    obtain ⟨lay, ld, q1, q2, q3, q4, q5, k1, k2, k3, k4, k5, e1, e2, e3, e4, li, lt, rfl, rfl, n1, n2, n3, n4, n5⟩ := hx (by omega)
    have N₂ := news_sub (l' := [(ld, layD q1 q2 q3 q4 q5 k1 k2 k3 k4 k5 e1 e2 e3 e4 li lt), (S1.heap.objs.size + 1 + 1, oB), (S1.heap.objs.size + 1, oL), (lay, instObj 255 ld)]) N₁ (by
      intro p hp
      simp only [List.mem_cons, List.not_mem_nil, or_false] at hp ⊢
      rcases hp with h | h | h | h
      · exact .inr (.inr (.inl h))
      · exact .inl h
      · exact .inr (.inl h)
      · exact .inr (.inr (.inr h)))
    clear N₁ N1 F1
    have hrr : ∀ p ∈ [(S1.heap.objs.size + 1 + 1, oB), (S1.heap.objs.size + 1, oL), (lay, instObj 255 ld)], p.1 ≠ ld := cons3 (Ne.symm n3) (Ne.symm n2) (Ne.symm n1) (fun _ h => nomatch h)
    k_steps)
end

end
end Mine
theorem PySem.Challenge.cw_on0346_01_holds : PySem.Challenge.rw_on0346_01.Holds :=
  Mine.law0
