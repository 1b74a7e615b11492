import PyProof.Rows.All
import Wide.All
import OpenK.AllK
import Wide.FinOn
import PySem.Challenge.RW_pq0694_01
open PySem PySem.W PyProof.Rows
set_option Elab.async false
set_option maxRecDepth 100000
set_option maxHeartbeats 8000000
namespace Mine
def vw : Program := view PySem.Challenge.pw_pq0694_01 [0, 4, 5, 7, 8, 10, 11, 12, 13, 14, 16, 17, 18, 19, 20, 21, 22, 24, 26, 27, 28, 29, 30, 31, 32]
def lo : List Str := [Str.ofString "named", Str.ofString "tuple_of", Str.ofString "RowsError", Str.ofString "PLAIN_KINDS"]
abbrev rW : RowW := (OpenLaw.row PySem.Challenge.rw_pq0694_01).toRowW
theorem leftO_rows {p q : Program} {loose : List Str} {Xt : Shared → Bool} {α : Type} {Yf : Shared → α} {Ya : World → α} {N : Nat} (row : String)
    (hf : ∀ w : World, (openEnds treeTable p (w.withFollow row false) N).map (fun s => (openSeen q loose (importedModules p.main.body) Xt true s, Yf s)) = some (openGood q loose, Ya (w.withFollow row false)))
    (ht : ∀ w : World, (openEnds treeTable p (w.withFollow row true) N).map (fun s => (openSeen q loose (importedModules p.main.body) Xt true s, Yf s)) = some (openGood q loose, Ya (w.withFollow row true))) : LeftO p q loose Xt Yf Ya N :=
  fun w => byRow2 row (P := fun w => (openEnds treeTable p w N).map (fun s => (openSeen q loose (importedModules p.main.body) Xt true s, Yf s)) = some (openGood q loose, Ya w)) hf ht w
local macro_rules | `(tactic| o_head $H) => `(tactic| (refine (fun both => holds_open (q := vw) (loose := lo) (Xt := fun s => xlAt vw [] s && recOk (RowW.records rW) s) (XP := XL vw []) (Yf := Hook.obs $H) (Ya := Hook.val $H) (YP := Hook.says $H) (N := 4056) (And.left both) (Hook.of $H) (Hook.keeps $H) (fun s e => xl_of s (Bool.and_eq_true_iff.mp e).1) XL.keeps (by rfl) (by rfl) (by rfl) (fun s e => recFacts_of (Bool.and_eq_true_iff.mp e).2) (by rfl) (by first | assumption | decide +kernel) (by decide +kernel) ⟨rfl, rfl, rfl, rfl, rfl, by decide +kernel⟩ ?hw (And.right both)) ?hc))
open_top hd for PySem.Challenge.rw_pq0694_01
def topRunG (stp : SharedT → Thread → Option (SharedT × Thread)) (n₀ : Nat) (ann : Option Value) : Nat → SharedT → Thread → Option SharedT
  | 0, _, _ => none
  | n + 1, s, t => match through t with
    | true => some s
    | false => match stepOk n₀ ann t with
      | false => none
      | true => match stp s t with
        | some (s', t') => topRunG stp n₀ ann n s' t'
        | none => none
theorem topRunG_of {tb : String → Option Builtin} {p : Program} {w : World} {n₀ : Nat} {ann : Option Value} : ∀ {n : Nat} {s s' : SharedT} {t : Thread}, topRunG (stepT (denote tb) p w) n₀ ann n s t = some s' → topRun tb p w n₀ ann n s.abs t = some s'.abs
  | 0, _, _, _, h => by cases h
  | n + 1, s, s', t, h => by
    unfold topRunG at h
    unfold topRun
    cases he : through t with
    | true => rw [he] at h; cases h; rfl
    | false =>
      rw [he] at h
      cases hk : stepOk n₀ ann t with
      | false => rw [hk] at h; cases h
      | true =>
        rw [hk] at h
        cases hs : stepT (denote tb) p w s t with
        | none => rw [hs] at h; cases h
        | some r => obtain ⟨s₂, t₂⟩ := r; rw [hs] at h; dsimp only; rw [stepT_spec hs]; exact topRunG_of h
def mkT : List Obj → Nat → BT → BT
  | [], _, t => t
  | o :: r, n, t => mkT r (n + 1) (t.ins n o)
noncomputable def bootT (P : Params) (os : OsState) : SharedT := ⟨mkT (boot_heap P).objs.toList 0 .nil, (boot_heap P).objs.size, (boot_heap P).life, Array.mk [], boot_drawn, boot_toks, os⟩
theorem bootT_abs (P : Params) (os : OsState) : (bootT P os).abs = ⟨boot_heap P, Array.mk [], boot_drawn, boot_toks, os⟩ := by kernel_rfl
noncomputable def hk : Hook := kHook hd.heap_39 [2, 3, 15, 17, 18, 20, 21, 22, 23, 24, 26, 27, 29, 30, 31, 32, 34, 35, 37, 38, 39, 41, 42, 44, 45, 46, 48, 49, 51, 52, 53, 60, 61, 63, 64, 66, 67, 68, 69, 70, 71, 74, 81, 82, 83, 86, 94, 96, 97, 99, 100, 101, 103, 104, 106, 107, 108, 110, 111, 113, 114, 115, 117, 118, 120, 121, 122, 124, 125, 127, 128, 129, 131, 132, 134, 135, 136, 137, 138, 139, 140, 143, 145, 146, 148, 149, 150, 152, 153, 155, 156, 157, 160, 161, 162, 165, 166, 167, 169, 170, 172, 173, 174, 176, 177, 179, 180, 181, 183, 184, 186, 187, 188, 191, 192, 193, 195, 196, 198, 199, 200, 202, 203, 205, 206, 214, 215, 217, 218, 220, 221, 222, 224, 225, 227, 228, 229, 231, 232, 234, 235, 236, 238, 239, 241, 242, 243, 244, 245, 246, 247, 250, 252, 253, 255, 256, 257, 259, 260, 262, 263, 264, 267, 268, 269, 271, 272, 274, 275, 276, 278, 279, 281, 282, 283, 285, 286, 288, 289, 290, 293, 294] (fun _ => by kernel_rfl)
theorem boot_ns (P : Params) : ((boot_heap P).isNs mainGlobals && (Array.mk ([] : List GenState)).size == 0) = true := by kernel_rfl
theorem left_of {p q : Program} {loose : List Str} {Xt : Shared → Bool} {α : Type} {Yf : Shared → α} {Ya : World → α} {N : Nat} (row : String)
    (ho : ∀ w : World, (fencedOpening treeTable p w N).map (fun s => (s.heap, s.gens, s.drawn, s.toks)) = some (boot_heap w.params, Array.mk [], boot_drawn, boot_toks))
    (hr : ∀ (b : Bool) (w : World) (os : OsState), (topRunG (stepT (denote treeTable) p (w.withFollow row b)) (boot_heap (w.withFollow row b).params).objs.size ((boot_heap (w.withFollow row b).params).nsMap mainGlobals "__annotations__") N (bootT (w.withFollow row b).params os) (topStub p)).map
      (fun sT => (staticsOk (importedModules p.main.body) (boot_heap (w.withFollow row b).params) sT.abs.heap && namesBound p sT.abs.heap && gensDone sT.abs && laidKept (boot_heap (w.withFollow row b).params) sT.abs.heap, openSeen q loose (importedModules p.main.body) Xt true sT.abs, Yf sT.abs)) = some (true, openGood q loose, Ya (w.withFollow row b))) :
    LeftO p q loose Xt Yf Ya N := by
  have at_ : ∀ (b : Bool) (w : World), (openEnds treeTable p (w.withFollow row b) N).map (fun s => (openSeen q loose (importedModules p.main.body) Xt true s, Yf s)) = some (openGood q loose, Ya (w.withFollow row b)) := by
    intro b w
    obtain ⟨s, hs, hv⟩ := Option.map_eq_some_iff.mp (ho (w.withFollow row b))
    obtain ⟨hp, g, d, tk, os⟩ := s
    simp only [Prod.mk.injEq] at hv
    obtain ⟨rfl, rfl, rfl, rfl⟩ := hv
    obtain ⟨sT, hT, hl⟩ := Option.map_eq_some_iff.mp (hr b w os)
    simp only [Prod.mk.injEq] at hl
    obtain ⟨hc, h1, h2⟩ := hl
    have hrun := topRunG_of hT
    rw [bootT_abs] at hrun
    have hf : topFrom treeTable p (w.withFollow row b) N ⟨boot_heap (w.withFollow row b).params, Array.mk [], boot_drawn, boot_toks, os⟩ = some sT.abs := by
      unfold topFrom
      rw [boot_ns]
      show (topRun treeTable p (w.withFollow row b) (boot_heap (w.withFollow row b).params).objs.size ((boot_heap (w.withFollow row b).params).nsMap mainGlobals "__annotations__") N ⟨boot_heap (w.withFollow row b).params, Array.mk [], boot_drawn, boot_toks, os⟩ (topStub p)).bind _ = _
      rw [hrun]
      show (match staticsOk (importedModules p.main.body) (boot_heap (w.withFollow row b).params) sT.abs.heap && namesBound p sT.abs.heap && gensDone sT.abs && laidKept (boot_heap (w.withFollow row b).params) sT.abs.heap with | true => some sT.abs | false => none) = _
      rw [hc]
    unfold openEnds
    rw [hs]
    show (topFrom treeTable p (w.withFollow row b) N ⟨boot_heap (w.withFollow row b).params, Array.mk [], boot_drawn, boot_toks, os⟩).map _ = _
    rw [hf]
    show some (openSeen q loose (importedModules p.main.body) Xt true sT.abs, Yf sT.abs) = _
    rw [h1, h2]
  exact leftO_rows row (at_ false) (at_ true)
theorem open0 : ∀ w : World, (fencedOpening treeTable PySem.Challenge.rw_pq0694_01.row.prog w 4056).map (fun s => (s.heap, s.gens, s.drawn, s.toks)) = some (boot_heap w.params, Array.mk [], boot_drawn, boot_toks) :=
  boot_open (by kernel_rfl) (by decide) (fun s => by kernel_rfl)
theorem row0 : ∀ (w : World) (os : OsState), (topRunG (stepT (denote treeTable) PySem.Challenge.rw_pq0694_01.row.prog (w.withFollow "special-get-raises" false)) (boot_heap (w.withFollow "special-get-raises" false).params).objs.size ((boot_heap (w.withFollow "special-get-raises" false).params).nsMap mainGlobals "__annotations__") 4056 (bootT (w.withFollow "special-get-raises" false).params os) (topStub PySem.Challenge.rw_pq0694_01.row.prog)).map
    (fun sT => (staticsOk (importedModules PySem.Challenge.rw_pq0694_01.row.prog.main.body) (boot_heap (w.withFollow "special-get-raises" false).params) sT.abs.heap && namesBound PySem.Challenge.rw_pq0694_01.row.prog sT.abs.heap && gensDone sT.abs && laidKept (boot_heap (w.withFollow "special-get-raises" false).params) sT.abs.heap, openSeen vw lo (importedModules PySem.Challenge.rw_pq0694_01.row.prog.main.body) (fun s => xlAt vw [] s && recOk (RowW.records rW) s) true sT.abs, Hook.obs hk sT.abs)) = some (true, openGood vw lo, Hook.val hk (w.withFollow "special-get-raises" false)) := by
  intro w os
  rw [PySem.W.Fast.te14364793385576792824, PySem.W.Fast.te11892475500146522536, PySem.W.Fast.te10156331382660048174, PySem.W.Fast.te4187177175401517315]
  kernel_rfl
theorem row1 : ∀ (w : World) (os : OsState), (topRunG (stepT (denote treeTable) PySem.Challenge.rw_pq0694_01.row.prog (w.withFollow "special-get-raises" true)) (boot_heap (w.withFollow "special-get-raises" true).params).objs.size ((boot_heap (w.withFollow "special-get-raises" true).params).nsMap mainGlobals "__annotations__") 4056 (bootT (w.withFollow "special-get-raises" true).params os) (topStub PySem.Challenge.rw_pq0694_01.row.prog)).map
    (fun sT => (staticsOk (importedModules PySem.Challenge.rw_pq0694_01.row.prog.main.body) (boot_heap (w.withFollow "special-get-raises" true).params) sT.abs.heap && namesBound PySem.Challenge.rw_pq0694_01.row.prog sT.abs.heap && gensDone sT.abs && laidKept (boot_heap (w.withFollow "special-get-raises" true).params) sT.abs.heap, openSeen vw lo (importedModules PySem.Challenge.rw_pq0694_01.row.prog.main.body) (fun s => xlAt vw [] s && recOk (RowW.records rW) s) true sT.abs, Hook.obs hk sT.abs)) = some (true, openGood vw lo, Hook.val hk (w.withFollow "special-get-raises" true)) := by
  intro w os
  rw [PySem.W.Fast.te14364793385576792824, PySem.W.Fast.te11892475500146522536, PySem.W.Fast.te10156331382660048174, PySem.W.Fast.te4187177175401517315]
  kernel_rfl
theorem left0 : LeftO PySem.Challenge.rw_pq0694_01.row.prog vw lo (fun s => xlAt vw [] s && recOk (RowW.records rW) s) (Hook.obs hk) (Hook.val hk) 4056 :=
  left_of "special-get-raises" open0 fun b => by
    cases b
    · exact row0
    · exact row1
end Mine

namespace Mine

abbrev theProg : PySem.Program := PySem.Challenge.rw_pq0694_01.row.prog
abbrev Led := List (Addr × Obj)

def Tel (w : World) (p : Program) (loose : List Str) (mean : ExcName → Option Value) (mg mb : Str → Option Value) (D U : Nat) (f : Addr) (vs : List Value) (news : Led) (post : Value → Led → Prop) : Prop :=
  ∀ (dp un : Nat) (gd : Option (List Code)) (cn : Str) (cs : Scope) (a : Addr) (ccd : Value) (cl : List (Str × Addr)) (outer : List Env) (A₀ : Around) (base h₀ : Heap) (L : Addr) (m : Str → Option Value) (s : Shared)
    (Q E : Value → Shared → Prop),
    Below A₀ base outer h₀ → Fr h₀ L s.heap m → (hd.heap_39 w.params).In h₀ → News h₀ L s.heap news → Top p loose mean mg mb h₀ → cs.kind = .function → dp + D < recursionLimit → un + U < cLine →
    (∀ r nw h' tk', Fr h₀ L h' m → News h₀ L h' nw → post r nw → Q r { s with heap := h', toks := tk' }) →
    wpAny (model PySem.Challenge.rw_pq0694_01.row.prog w) (ktrTop dp un gd cn cs L a ccd cl outer) (call (.ref f) vs) Q E s

abbrev srcO (x y : Int) (t u : Tok) (n : Nat) : Obj := listOf #[.int x t, .int y u] n

local macro_rules | `(tactic| k_all) => `(tactic| assumption)


theorem fmod_b {a b : Int} (hb : 0 < b) : 0 ≤ a.fmod b ∧ a.fmod b < b := by
  rw [Int.fmod_eq_emod_of_nonneg a (Int.le_of_lt hb)]
  exact ⟨Int.emod_nonneg a (Int.ne_of_gt hb), Int.emod_lt_of_pos a hb⟩
theorem fdiv_n {a b : Int} (ha : 0 ≤ a) (hb : 0 < b) : 0 ≤ a.fdiv b := by
  rw [Int.fdiv_eq_ediv_of_nonneg a (Int.le_of_lt hb)]
  exact Int.ediv_nonneg ha (Int.le_of_lt hb)

theorem digit_tel {w : World} {p : Program} {loose : List Str} {mean : ExcName → Option Value} {mg mb : Str → Option Value} (src : Addr) (x y many : Int) (t u tm : Tok) (n : Nat) (news : Led)
    (hoff : ∀ q ∈ news, q.1 ≠ src) (hx : 0 ≤ x) (hy : 0 ≤ y) (hy' : y ≤ 2147483629) (hm : 0 < many) (hm' : many ≤ 256) :
    Tel w p loose mean mg mb 2 16 263 [.ref src, .int many tm] ((src, srcO x y t u n) :: news)
      (fun r nw => ∃ d td x' y' t' u', r = .int d td ∧ 0 ≤ d ∧ d < many ∧ nw = (src, srcO x' y' t' u' n) :: news ∧ 0 ≤ x' ∧ 0 ≤ y' ∧ y' ≤ 2147483629) := by
  unfold Tel
  k_fill
  intro dp un gd cn cs a ccd cl outer A₀ base h₀ L m s Q E B F X N T hk hd' hu hret
  refine wpAny_call ?_
  k_dflt ktr_enter
  k_steps
  · refine hret _ _ _ _ (by assumption) (by assumption) ⟨_, _, _, _, _, _, rfl, ?_, ?_, rfl, ?_, ?_, ?_⟩
    · exact (fmod_b hm).1
    · exact (fmod_b hm).2
    · exact fdiv_n hx hm
    · exact hy
    · exact hy'
  · refine hret _ _ _ _ (by assumption) (by assumption) ⟨_, _, _, _, _, _, rfl, ?_, ?_, rfl, ?_, ?_, ?_⟩
    · exact (fmod_b hm).1
    · exact (fmod_b hm).2
    · exact hx
    · exact (fmod_b (by decide)).1
    · have := (fmod_b (a := y * 40014 + 3) (b := 2147483629) (by decide)).2
      exact Int.le_of_lt this
end Mine

namespace Mine
open PySem.Calls PySem.Spec

def Stop (P : Prop) : Prop := P
theorem Stop.go {P : Prop} (h : Stop P) : P := h
theorem Stop.out {P : Prop} (h : P) : Stop P := h

def Above (l tl : Led) : Prop := ∀ q ∈ l, ∀ p ∈ tl, q.1 < p.1
theorem Above.nil {l : Led} : Above l [] := fun _ _ _ h => nomatch h
theorem lt_of_allLt {d : Addr} : ∀ {l : Led}, AllLt d l → ∀ p ∈ l, p.1 < d
  | [], _, _, hp => (nomatch hp)
  | q :: r, h, p, hp => by
    rcases List.mem_cons.mp hp with rfl | hp
    · exact h.1
    · exact lt_of_allLt h.2 p hp
theorem Above.cons {l tl : Led} {a : Addr} {o : Obj} (h : ∀ q ∈ l, q.1 < a) (k : Above l tl) : Above l ((a, o) :: tl) := by
  intro q hq p hp
  rcases List.mem_cons.mp hp with rfl | hp
  · exact h q hq
  · exact k q hq p hp
theorem Above.app {l t1 t2 : Led} (h : Above l t1) (k : Above l t2) : Above l (t1 ++ t2) := by
  intro q hq p hp
  rcases List.mem_append.mp hp with hp | hp
  · exact h q hq p hp
  · exact k q hq p hp
theorem Above.sub {l l' tl : Led} (h : Above l tl) (s : ∀ q ∈ l', q ∈ l) : Above l' tl := fun q hq => h q (s q hq)

theorem tel_use {w : World} {p : Program} {loose : List Str} {mean : ExcName → Option Value} {mg mb : Str → Option Value} {D U : Nat} {f : Addr} {vs : List Value} {news all : Led} {post : Value → Led → Prop}
    {dp un : Nat} {gd : Option (List Code)} {cn : Str} {cs : Scope} {a : Addr} {ccd : Value} {cl : List (Str × Addr)} {outer : List Env} {A₀ : Around} {base h₀ : Heap} {L : Addr} {m : Str → Option Value} {s : Shared}
    {Q E : Value → Shared → Prop}
    (C : Tel w p loose mean mg mb D U f vs news post) (B : Below A₀ base outer h₀) (F : Fr h₀ L s.heap m) (X : (hd.heap_39 w.params).In h₀) (N : News h₀ L s.heap all) (sub : ∀ q ∈ news, q ∈ all) (T : Top p loose mean mg mb h₀)
    (hk : cs.kind = .function) (hd : dp + D < recursionLimit) (hu : un + U < cLine)
    (ret : ∀ r nw h' tk', Fr h₀ L h' m → News h₀ L h' nw → post r nw → Q r { s with heap := h', toks := tk' }) :
    wpAny (model PySem.Challenge.rw_pq0694_01.row.prog w) (ktrTop dp un gd cn cs L a ccd cl outer) (call (.ref f) vs) Q E s :=
  C _ _ _ _ _ _ _ _ _ _ _ _ _ _ _ _ _ B F X (fun q hq => N q (sub q hq)) T hk hd hu ret

section
open LCg
variable {prog : Program} {w : World} {A : Around} {E : Value → Shared → Prop} {s : Shared} {h₀ : Heap} {L : Addr} {m : Str → Option Value} {env : Env}

def CompT (prog : Program) (w : World) (A : Around) (h₀ : Heap) (L : Addr) (m : Str → Option Value) (env : Env) (elt : Expr) (x : Str) (scope : Scope) (cl : List (Str × Addr)) (Q : Value → Shared → Prop) (xv : Value) (s₁ : Shared) : Prop :=
  ∃ ax its k news, xv = .ref ax ∧ A.handled = none ∧ Fr h₀ L s₁.heap m ∧ News h₀ L s₁.heap news ∧ (ax, ({ cls := .type "tuple", data := .seq its k } : Obj)) ∈ news ∧ its.size ≤ sizeLine ∧
    ∀ s₂ : Shared, (∃ h, s₂ = { s₁ with heap := h }) → CompRest prog w A h₀ L m env elt x scope cl s₂ (fun nw => (ax, ({ cls := .type "tuple", data := .seq its k } : Obj)) ∈ nw) (fun i v => its[i]? = some v) (FinE h₀ L m s₂ Q) its.size 0 [] news

theorem comp_tup {elt iter : Expr} {x : Str} {px : Pos} {scope : Scope} {cl : List (Str × Addr)} {pos : Pos} {Q : Value → Shared → Prop} (_F₀ : Fr h₀ L s.heap m)
    (hclos : closureFor scope env = pure cl) (hcell : ∀ y ∈ scope.names, y.2 ≠ .cell) (hkind : scope.kind = .function)
    (hnames : ∀ y ∈ scope.names, y.2 = .local → scope.names.lookup y.1 = some .local) (hx : scope.names.lookup x = some .local)
    (h : wpAny (model prog w) A (eval iter env) (CompT prog w A h₀ L m env elt x scope cl Q) E s)
    (hs : ∀ x, foldedSetIterable iter env x = pure x := by intro _; rfl) :
    wpAny (model prog w) A (eval (.ListComp elt [⟨.Name x px, iter, [], 0⟩] scope pos) env) Q E s := by
  rw [eval_ListComp]
  refine wpAny_comprehension_free (use := none) rfl hs hclos hkind hnames (wpAny_mono h (fun xv s₁ h₁ => ?_) fun _ _ e => e)
  obtain ⟨ax, its, k, news, rfl, hh, F, N, hm, hsz, R⟩ := h₁
  have ht : s₁.heap.IsTuple ax its := ⟨_, (N _ hm).1, rfl, _, rfl⟩
  have hlt : ax < s₁.heap.objs.size := Heap.lt_size (N _ hm).1
  refine wpAny_pyIter_tuple ht ?_
  refine block_U (S := fun nw => (ax, ({ cls := .type "tuple", data := .seq its k } : Obj)) ∈ nw) (Walks.tuple hh s₁.heap.objs.size ax (Nat.ne_of_lt hlt) its) hsz (fun i h st => by obtain ⟨o, e, _⟩ := st.1; exact ⟨o, e⟩)
    (fun i h h' o nw st e e' _ N' S => ⟨by obtain ⟨o', q, r⟩ := st.1; rw [e] at q; cases q; exact ⟨o, e', r⟩, ⟨_, (N' _ S).1, rfl, _, rfl⟩⟩)
    hcell hkind hx ⟨⟨_, Heap.get?_push_size _ rfl, rfl, rfl⟩, ⟨_, Heap.get?_push_of_some _ (N _ hm).1, rfl, _, rfl⟩⟩ (fun b hb => ?_)
    (F.keeps fun _ _ e => Heap.get?_push_of_some _ e) (N.grown fun _ _ e => Heap.get?_push_of_some _ e) (Nat.ne_of_lt F.ns.lt) (next_is_new F) (fun p hp => Nat.ne_of_lt (Heap.lt_size (N p hp).1)) hm (R _ ⟨_, rfl⟩) ?_
  · show b < (s₁.heap.push _).objs.size
    rw [Heap.size_push]
    rcases List.mem_cons.mp hb with rfl | hb
    · exact Nat.lt_succ_self _
    · rw [List.mem_singleton.mp hb]; exact Nat.lt_succ_of_lt hlt
  · intro D C h tk m' ys news' F' N' o1 hn hC₀ hD₀ hCL hDL hCD offC fin
    refine ⟨m', hn, fun h'' hs'' => fin D h'' tk (F'.change hs'' hCL hC₀) (fun p hp => ?_) o1⟩
    refine ⟨hs''.extBut _ _ ?_ (N' p hp).1, (N' p hp).2⟩
    rcases List.mem_cons.mp hp with rfl | hp
    · exact Ne.symm hCD
    · exact offC p hp

theorem compRest_inv {elt : Expr} {x : Str} {scope : Scope} {cl : List (Str × Addr)} {S : Led → Prop} {P : Nat → Value → Prop} {Fin : List Value → Led → Prop} {n : Nat} (Inv : Nat → List Value → Led → Prop)
    (turn : ∀ i ys news v I oI C oC D m₂ h tk (E' : Value → Shared → Prop), i < n → P i v → NsObj oC m₂ → m₂ x = some v → Fr h₀ L h m → News h₀ L h ((I, oI) :: (C, oC) :: (D, lst ys) :: news) → Off3 I C D news → ((@Ne Nat I C) ∧ (@Ne Nat I D) ∧ (@Ne Nat C D)) → Inv i ys news →
      wpAny (model prog w) A (eval elt (compEnvC scope cl C env)) (CompEnd h₀ L m { s with heap := h, toks := tk } I oI C oC D (lst ys) S (fun y news' => Inv (i + 1) (ys ++ [y]) news')) E' { s with heap := h, toks := tk })
    (fin : ∀ ys news, Inv n ys news → Fin ys news) :
    ∀ k i ys news, i + k = n → Inv i ys news → CompRest prog w A h₀ L m env elt x scope cl s S P Fin k i ys news := by
  intro k
  induction k with
  | zero =>
    intro i ys news hi hI
    obtain rfl : i = n := by omega
    exact CompRest.zero (fin _ _ hI)
  | succ k ih =>
    intro i ys news hi hI
    refine CompRest.succ fun v I oI C oC D m₂ h tk E' hP hO hx F N off ne => ?_
    refine wpAny_mono (turn i ys news v I oI C oC D m₂ h tk E' (by omega) hP hO hx F N off ne hI) (fun y s' hy => ?_) fun _ _ e => e
    obtain ⟨h', tk', news', e, F', N', off', hS, hr⟩ := hy
    exact ⟨h', tk', news', e, F', N', off', hS, ih (i + 1) (ys ++ [y]) news' (by omega) hr⟩

theorem compEnd_of {I C D : Addr} {oI oC oD : Obj} {s₁ : Shared} {S : Led → Prop} {rest : Value → Led → Prop} {y : Value} {h' : Heap} {tk : Nat} {tl nw : Led}
    (F : Fr h₀ L h' m) (N : News h₀ L h' (tl ++ ((I, oI) :: (C, oC) :: (D, oD) :: nw))) (Ab : Above ((I, oI) :: (C, oC) :: (D, oD) :: nw) tl) (off : Off3 I C D nw) (hS : S (tl ++ nw)) (r : rest y (tl ++ nw)) :
    CompEnd h₀ L m s₁ I oI C oC D oD S rest y { s₁ with heap := h', toks := tk } := by
  refine CompEnd.intro F N (tl ++ nw) (fun p hp => ?_) (Off3.of fun p hp => ?_) hS r
  · rcases List.mem_cons.mp hp with rfl | hp
    · exact List.mem_append.mpr (.inr (.head _))
    · rcases List.mem_cons.mp hp with rfl | hp
      · exact List.mem_append.mpr (.inr (.tail _ (.head _)))
      · rcases List.mem_cons.mp hp with rfl | hp
        · exact List.mem_append.mpr (.inr (.tail _ (.tail _ (.head _))))
        · rcases List.mem_append.mp hp with hp | hp
          · exact List.mem_append.mpr (.inl hp)
          · exact List.mem_append.mpr (.inr (.tail _ (.tail _ (.tail _ hp))))
  · rcases List.mem_append.mp hp with hp | hp
    · exact ⟨Nat.ne_of_gt (Ab _ (.head _) p hp), Nat.ne_of_gt (Ab _ (.tail _ (.head _)) p hp), Nat.ne_of_gt (Ab _ (.tail _ (.tail _ (.head _))) p hp)⟩
    · exact off.mem p hp
end
end Mine

namespace Mine
abbrev TupO (vs : List Value) : Obj := { cls := .type "tuple", data := .seq vs.toArray }
abbrev kx : Led := [(22, TupO [])]

theorem dat_str {l : Led} {v : Value} {x : Str} (h : DatIn l v (.str x)) : ∃ t, v = .str x t := by cases h; exact ⟨_, rfl⟩
theorem dat_tup {l : Led} {v : Value} {ds : List Dat} (h : DatIn l v (.tuple ds)) : ∃ a n vs, v = .ref a ∧ (a, ({ cls := .type "tuple", data := .seq (List.toArray vs) n } : Obj)) ∈ l ∧ DatAll l vs ds := by cases h with | tuple hm r => exact ⟨_, _, _, rfl, hm, r⟩
theorem dat_tup2 {l : Led} {v : Value} {d1 d2 : Dat} (h : DatIn l v (.tuple [d1, d2])) : ∃ a n v1 v2, v = .ref a ∧ (a, ({ cls := .type "tuple", data := .seq [v1, v2].toArray n } : Obj)) ∈ l ∧ DatIn l v1 d1 ∧ DatIn l v2 d2 := by
  obtain ⟨a, n, vs, rfl, hm, r⟩ := dat_tup h
  cases r with | cons h1 r => cases r with | cons h2 r => cases r; exact ⟨_, _, _, _, rfl, hm, h1, h2⟩
theorem dat_tup3 {l : Led} {v : Value} {d1 d2 d3 : Dat} (h : DatIn l v (.tuple [d1, d2, d3])) : ∃ a n v1 v2 v3, v = .ref a ∧ (a, ({ cls := .type "tuple", data := .seq [v1, v2, v3].toArray n } : Obj)) ∈ l ∧ DatIn l v1 d1 ∧ DatIn l v2 d2 ∧ DatIn l v3 d3 := by
  obtain ⟨a, n, vs, rfl, hm, r⟩ := dat_tup h
  cases r with | cons h1 r => cases r with | cons h2 r => cases r with | cons h3 r => cases r; exact ⟨_, _, _, _, _, rfl, hm, h1, h2, h3⟩

inductive KO : Nat → Dat → Dat → Prop
  | int (n : Nat) (s : Str) (d : Dat) : KO n (.tuple [.str (Str.ofString "int"), .str s, d]) (.tuple [.str (Str.ofString "name"), .str s, .tuple []])
  | text (n : Nat) (d : Dat) : KO n (.tuple [.str (Str.ofString "text"), d]) (.tuple [.str (Str.ofString "name"), .str (Str.ofString "String"), .tuple []])
  | sym (n : Nat) (d : Dat) : KO n (.tuple [.str (Str.ofString "sym"), d]) (.tuple [.str (Str.ofString "name"), .str (Str.ofString "Symbol"), .tuple []])
  | type (n : Nat) (k : Dat) : KO n (.tuple [.str (Str.ofString "type"), k]) (.tuple [.str (Str.ofString "typeof"), k])
  | struct (n : Nat) (k d : Dat) : KO n (.tuple [.str (Str.ofString "struct"), k, d]) k
  | clos (n : Nat) (s : Str) (d : Dat) : KO n (.tuple [.str (Str.ofString "closure"), .str s, d]) (.tuple [.str (Str.ofString "fn"), .str s])
  | func (n : Nat) (s : Str) : KO n (.tuple [.str (Str.ofString "fun"), .str s]) (.tuple [.str (Str.ofString "fn"), .str s])
  | tup (n : Nat) (ps : List (Dat × Dat)) : ps.length ≤ 8 → (∀ p ∈ ps, KO n p.1 p.2) → KO (n + 1) (.tuple [.str (Str.ofString "tuple"), .tuple (ps.map Prod.fst)]) (.tuple [.str (Str.ofString "tuple"), .tuple (ps.map Prod.snd), .none])

def InvK (ks : List Dat) (dn N0 : Led) (i : Nat) (ys : List Value) (nw : Led) : Prop := ∃ tl, nw = tl ++ N0 ∧ Above N0 tl ∧ ys.length = i ∧ DatAll (tl ++ (dn ++ kx)) ys (ks.take i)
theorem datAll_at {l : Led} : ∀ {vs : List Value} {ds : List Dat} {i : Nat} {v : Value}, DatAll l vs ds → vs[i]? = some v → ∃ d, ds[i]? = some d ∧ DatIn l v d
  | _, _, _, _, .nil, h => by simp at h
  | _, _, 0, _, .cons hd _, h => by simp at h; subst h; exact ⟨_, rfl, hd⟩
  | _, _, i + 1, _, .cons _ r, h => by simp at h; simpa using datAll_at r h

def KindTel (w : World) (p : Program) (loose : List Str) (mean : ExcName → Option Value) (mg mb : Str → Option Value) (n : Nat) : Prop :=
  ∀ (d k : Dat) (news dn : Led) (hp : Addr) (v : Value), (∀ q ∈ dn, q ∈ news) → KO n d k → DatIn dn v d →
    Tel w p loose mean mg mb (4 * n + 8) (40 * n + 80) 161 [.ref hp, v] news (fun r nw => ∃ tl, nw = tl ++ news ∧ Above news tl ∧ DatIn (tl ++ (dn ++ kx)) r k)

section
variable {h₀ h' : Heap} {L : Addr} {m : Str → Option Value} {Q : Value → Shared → Prop} {s : Shared} {news dn rest : Led} {k : Dat} {r : Value} {a1 : Addr} {o1 : Obj} {tk' : Nat}
theorem kind_end0 (hret : ∀ r nw h' tk', Fr h₀ L h' m → News h₀ L h' nw → (∃ tl, nw = tl ++ news ∧ Above news tl ∧ DatIn (tl ++ (dn ++ kx)) r k) → Q r { s with heap := h', toks := tk' })
    (F : Fr h₀ L h' m) (N : News h₀ L h' rest) (sub : ∀ q ∈ news, q ∈ rest) (hd : DatIn (dn ++ kx) r k) : Q r { s with heap := h', toks := tk' } :=
  hret _ _ _ _ F (fun q hq => N q (sub q hq)) ⟨[], rfl, Above.nil, hd⟩
theorem kind_end1 (hret : ∀ r nw h' tk', Fr h₀ L h' m → News h₀ L h' nw → (∃ tl, nw = tl ++ news ∧ Above news tl ∧ DatIn (tl ++ (dn ++ kx)) r k) → Q r { s with heap := h', toks := tk' })
    (F : Fr h₀ L h' m) (N : News h₀ L h' ((a1, o1) :: rest)) (sub : ∀ q ∈ news, q ∈ rest) (lt : AllLt a1 news) (hd : DatIn ((a1, o1) :: (dn ++ kx)) r k) : Q r { s with heap := h', toks := tk' } :=
  hret _ ((a1, o1) :: news) _ _ F (fun q hq => N q (by
    rcases List.mem_cons.mp hq with rfl | hq
    · exact .head _
    · exact .tail _ (sub q hq))) ⟨[(a1, o1)], rfl, Above.cons (lt_of_allLt lt) Above.nil, hd⟩
theorem kind_end2 {a2 a3 : Addr} {o2 o3 : Obj} {tl : Led} {c : Addr × Obj} (hret : ∀ r nw h' tk', Fr h₀ L h' m → News h₀ L h' nw → (∃ tl, nw = tl ++ news ∧ Above news tl ∧ DatIn (tl ++ (dn ++ kx)) r k) → Q r { s with heap := h', toks := tk' })
    (F : Fr h₀ L h' m) (N : News h₀ L h' ((a1, o1) :: (a2, o2) :: (a3, o3) :: (tl ++ (c :: news)))) (lt : AllLt a1 (tl ++ (c :: news))) (lt2 : AllLt a2 (tl ++ (c :: news))) (ab : Above (c :: news) tl)
    (hd : DatIn ((a1, o1) :: (a2, o2) :: (tl ++ (dn ++ kx))) r k) : Q r { s with heap := h', toks := tk' } :=
  hret _ ((a1, o1) :: (a2, o2) :: (tl ++ news)) _ _ F (fun q hq => N q (by
    rcases List.mem_cons.mp hq with rfl | hq
    · exact .head _
    · rcases List.mem_cons.mp hq with rfl | hq
      · exact .tail _ (.head _)
      · rcases List.mem_append.mp hq with hq | hq
        · exact .tail _ (.tail _ (.tail _ (List.mem_append.mpr (.inl hq))))
        · exact .tail _ (.tail _ (.tail _ (List.mem_append.mpr (.inr (.tail _ hq)))))))
    ⟨(a1, o1) :: (a2, o2) :: tl, rfl, Above.cons (fun q hq => lt_of_allLt lt q (List.mem_append.mpr (.inr (.tail _ hq)))) (Above.cons (fun q hq => lt_of_allLt lt2 q (List.mem_append.mpr (.inr (.tail _ hq)))) (ab.sub fun q hq => .tail _ hq)), hd⟩
theorem mem_kx {l : Led} {q : Addr × Obj} : (22, TupO []) ∈ q :: (l ++ kx) := .tail _ (List.mem_append.mpr (.inr (.head _)))
end

theorem memL {a : Addr × Obj} {l : Led} (h : a ∈ l) : List.Mem a l := h
theorem memH {a : Addr × Obj} {l : Led} : a ∈ a :: l := .head _
theorem memT {a b : Addr × Obj} {l : Led} (h : a ∈ l) : a ∈ b :: l := .tail _ h
theorem memR {a : Addr × Obj} {l r : Led} (h : a ∈ r) : a ∈ l ++ r := List.mem_append.mpr (.inr h)
theorem memA {a : Addr × Obj} {l r : Led} (h : a ∈ l) : a ∈ l ++ r := List.mem_append.mpr (.inl h)
local macro_rules | `(tactic| k_mem) => `(tactic| (refine memL ?_; (repeat (first | exact memH | ktr_member | exact memA (by ktr_member) | refine memT ?_ | refine memR ?_)); done))
local macro_rules | `(tactic| walk_at "call type:tuple") => `(tactic| (k_here; (with_reducible show wpAny _ _ (call (Value.type _) [Value.ref _]) _ _ _); k_dflt (refine' call_tuple_tup ?t ?_; (case t => exact tupK (Frag.In.keeps (by k_asm) (Fr.keep (by k_asm))) (by k_is)); k_whole)))
local macro_rules | `(tactic| walk_at "eval ListComp") => `(tactic| (k_here; refine Stop.go ?_))
local macro_rules | `(tactic| walk_at "call ref") => `(tactic| (k_here; (with_reducible show wpAny _ _ (call (Value.ref 161) _) _ _ _); refine Stop.go ?_))
local macro_rules | `(tactic| walk_at "call type:tuple") => `(tactic| (k_here; (with_reducible show wpAny _ _ (call (Value.type _) [Value.ref _]) _ _ _); k_dflt (refine' kde_tupleOf ?k1 ?k2 ?k3 ?k4 ?k5 ?_; (case k1 => k_asm); (case k2 => k_asm); (case k3 => exact News.isList (by k_asm) (by k_mem)); (case k4 => (simp only [List.size_toArray]; omega)); (case k5 => exact rfl)); intro D' h' F' N' l1; (try k_lt l1); (try k_sweep)))
local macro_rules | `(tactic| k_room) => `(tactic| ktr_room)

theorem kindof_tel {w : World} {p : Program} {loose : List Str} {mean : ExcName → Option Value} {mg mb : Str → Option Value} (n : Nat) (IH : ∀ j, j < n → KindTel w p loose mean mg mb j) : KindTel w p loose mean mg mb n := by
  intro d k news dn hp v hs hko hv
  unfold Tel
  k_fill
  intro dp un gd cn cs a ccd cl outer A₀ base h₀ L m s Q E B F X N T hk hd' hu hret
  obtain ⟨ck, cnm, cg, cc, cm⟩ := cs
  dsimp only at hk
  subst hk
  cases hko with
  | int n s d =>
    obtain ⟨a, n, v1, v2, v3, rfl, hm, h1, h2, h3⟩ := dat_tup3 hv
    replace hm := hs _ hm
    obtain ⟨t1, rfl⟩ := dat_str h1
    obtain ⟨t2, rfl⟩ := dat_str h2
    refine wpAny_call ?_
    k_dflt k_enter
    k_steps
    refine kind_end1 hret (by assumption) (by assumption) (by intro q hq; simp only [List.mem_cons, hq, or_true]) (by first | exact (‹_ ∧ AllLt _ _›).2 | exact (‹_ ∧ _ ∧ AllLt _ _›).2.2 | exact (‹_ ∧ _ ∧ _ ∧ AllLt _ _›).2.2.2) ?_
    exact .tuple (.head _) (.cons (.str _ _) (.cons (.str _ _) (.cons (.tuple mem_kx .nil) .nil)))
  | text n d => 
    obtain ⟨a, n, v1, v2, rfl, hm, h1, h2⟩ := dat_tup2 hv
    replace hm := hs _ hm
    obtain ⟨t1, rfl⟩ := dat_str h1
    refine wpAny_call ?_
    k_dflt k_enter
    k_steps
    refine kind_end1 hret (by assumption) (by assumption) (by intro q hq; simp only [List.mem_cons, hq, or_true]) (by first | exact (‹_ ∧ AllLt _ _›).2 | exact (‹_ ∧ _ ∧ AllLt _ _›).2.2 | exact (‹_ ∧ _ ∧ _ ∧ AllLt _ _›).2.2.2) ?_
    exact .tuple (.head _) (.cons (.str _ _) (.cons (.str _ _) (.cons (.tuple mem_kx .nil) .nil)))
  | sym n d =>
    obtain ⟨a, n, v1, v2, rfl, hm, h1, h2⟩ := dat_tup2 hv
    replace hm := hs _ hm
    obtain ⟨t1, rfl⟩ := dat_str h1
    refine wpAny_call ?_
    k_dflt k_enter
    k_steps
    refine kind_end1 hret (by assumption) (by assumption) (by intro q hq; simp only [List.mem_cons, hq, or_true]) (by first | exact (‹_ ∧ AllLt _ _›).2 | exact (‹_ ∧ _ ∧ AllLt _ _›).2.2 | exact (‹_ ∧ _ ∧ _ ∧ AllLt _ _›).2.2.2) ?_
    exact .tuple (.head _) (.cons (.str _ _) (.cons (.str _ _) (.cons (.tuple mem_kx .nil) .nil)))
  | type n k =>
    obtain ⟨a, n, v1, v2, rfl, hm, h1, h2⟩ := dat_tup2 hv
    replace hm := hs _ hm
    obtain ⟨t1, rfl⟩ := dat_str h1
    refine wpAny_call ?_
    k_dflt k_enter
    k_steps
    refine kind_end1 hret (by assumption) (by assumption) (by intro q hq; simp only [List.mem_cons, hq, or_true]) (by first | exact (‹_ ∧ AllLt _ _›).2 | exact (‹_ ∧ _ ∧ AllLt _ _›).2.2 | exact (‹_ ∧ _ ∧ _ ∧ AllLt _ _›).2.2.2) ?_
    exact .tuple (.head _) (.cons (.str _ _) (.cons (h2.mono fun q hq => .tail _ (List.mem_append.mpr (.inl hq))) .nil))
  | struct n k d =>
    obtain ⟨a, n, v1, v2, v3, rfl, hm, h1, h2, h3⟩ := dat_tup3 hv
    replace hm := hs _ hm
    obtain ⟨t1, rfl⟩ := dat_str h1
    refine wpAny_call ?_
    k_dflt k_enter
    k_steps
    exact kind_end0 hret (by assumption) (by assumption) (by intro q hq; simp only [List.mem_cons, hq, or_true]) (h2.mono fun q hq => List.mem_append.mpr (.inl hq))
  | clos n s d =>
    obtain ⟨a, n, v1, v2, v3, rfl, hm, h1, h2, h3⟩ := dat_tup3 hv
    replace hm := hs _ hm
    obtain ⟨t1, rfl⟩ := dat_str h1
    obtain ⟨t2, rfl⟩ := dat_str h2
    refine wpAny_call ?_
    k_dflt k_enter
    k_steps
    refine kind_end1 hret (by assumption) (by assumption) (by intro q hq; simp only [List.mem_cons, hq, or_true]) (by first | exact (‹_ ∧ AllLt _ _›).2 | exact (‹_ ∧ _ ∧ AllLt _ _›).2.2 | exact (‹_ ∧ _ ∧ _ ∧ AllLt _ _›).2.2.2) ?_
    exact .tuple (.head _) (.cons (.str _ _) (.cons (.str _ _) .nil))
  | func n s =>
    obtain ⟨a, n, v1, v2, rfl, hm, h1, h2⟩ := dat_tup2 hv
    replace hm := hs _ hm
    obtain ⟨t1, rfl⟩ := dat_str h1
    obtain ⟨t2, rfl⟩ := dat_str h2
    refine wpAny_call ?_
    k_dflt k_enter
    k_steps
    refine kind_end1 hret (by assumption) (by assumption) (by intro q hq; simp only [List.mem_cons, hq, or_true]) (by first | exact (‹_ ∧ AllLt _ _›).2 | exact (‹_ ∧ _ ∧ AllLt _ _›).2.2 | exact (‹_ ∧ _ ∧ _ ∧ AllLt _ _›).2.2.2) ?_
    exact .tuple (.head _) (.cons (.str _ _) (.cons (.str _ _) .nil))
  | tup n ps hlen hps =>
    obtain ⟨a, n1, v1, v2, rfl, hm, h1, h2⟩ := dat_tup2 hv
    replace hm := hs _ hm
    obtain ⟨t1, rfl⟩ := dat_str h1
    obtain ⟨b, n2, vs, rfl, hm2, hall⟩ := dat_tup h2
    replace hm2 := hs _ hm2
    refine wpAny_call ?_
    k_dflt k_enter
    k_steps
    refine Stop.out ?_
    k_dflt (refine comp_tup (by k_asm) (by with_unfolding_all rfl) (by decide) (by rfl) (by decide) (by rfl) ?_)
    k_steps
    have hvl : vs.length = ps.length := by rw [hall.length, List.length_map]
    refine ⟨b, vs.toArray, n2, _, rfl, rfl, by assumption, by assumption, List.mem_cons_of_mem _ hm2, ?_, ?_⟩
    · rw [List.size_toArray, hvl, sizeLine_eq]; omega
    rintro s2 ⟨g, rfl⟩
    refine compRest_inv (InvK (ps.map Prod.snd) dn _) ?_ ?_ _ 0 [] _ (Nat.zero_add _) ⟨[], rfl, Above.nil, rfl, DatAll.nil⟩
    · rintro i ys nw v I oI C oC D m2 h2 tk E' hi hP hO hx F2 N2 off ne ⟨tl, rfl, hAb, hyl, hdat⟩
      obtain ⟨d, hd, hvd⟩ := datAll_at hall (by simpa using hP)
      k_steps
      refine Stop.out ?_
      obtain ⟨pr, hpr, hpd⟩ : ∃ pr, ps[i]? = some pr ∧ pr.1 = d := by
        rw [List.getElem?_map] at hd
        cases hq : ps[i]? with
        | none => rw [hq] at hd; cases hd
        | some pr => rw [hq] at hd; exact ⟨pr, rfl, Option.some.inj hd⟩
      subst hpd
      have hko2 := hps pr (List.mem_of_getElem? hpr)
      k_dflt (refine' tel_use (IH n (Nat.lt_succ_self n) pr.1 pr.2 _ dn hp v ?hs1 hko2 hvd) ?B ?F ?X ?N (fun _ h => h) ?T ?hk ?hd ?hu ?ret)
      case B => k_asm
      case F => k_asm
      case X => k_asm
      case N => k_asm
      case T => k_asm
      case hk => rfl
      case hd => ktr_room
      case hu => ktr_units
      case hs1 => exact fun q hq => memT (memT (memT (memR (memT (hs q hq)))))
      case ret =>
        rintro r nw h4 tk4 F4 N4 ⟨tl2, rfl, hAb2, hdat2⟩
        k_steps
        refine compEnd_of F4 N4 hAb2 off (memR (memR (memT hm2))) ⟨tl2 ++ tl, (List.append_assoc _ _ _).symm, Above.app (hAb2.sub fun q hq => memT (memT (memT (memR hq)))) hAb, ?_, ?_⟩
        · rw [List.length_append, hyl]; rfl
        · have e : (ps.map Prod.snd).take (i + 1) = (ps.map Prod.snd).take i ++ [pr.2] := by simp [List.take_add_one, hpr]
          rw [e, List.append_assoc]
          exact (hdat.mono fun q hq => memR hq).append (DatAll.one (hdat2.mono fun q hq => (List.mem_append.mp hq).elim memA fun h => memR (memR h)))
    · rintro ys nw ⟨tl, rfl, hAb, hyl, hdat⟩
      unfold LCg.FinE
      intro D h3 tk F3 N3 o1
      dsimp only
      have hys8 : ys.length ≤ 8 := by rw [hyl, List.size_toArray, hvl]; exact hlen
      k_steps
      rw [List.size_toArray, hvl, List.take_of_length_le (by rw [List.length_map]; exact Nat.le_refl _)] at hdat
      exact kind_end2 hret (by assumption) (by assumption) (‹_ ∧ _ ∧ AllLt _ _›).2.2 (‹_ ∧ AllLt _ _›).2 hAb (.tuple (.head _) (.cons (.str _ _) (.cons (.tuple (.tail _ (.head _)) (hdat.mono fun q hq => .tail _ (.tail _ hq))) (.cons .none .nil))))
end Mine

namespace Mine

theorem kind_all {w : World} {p : Program} {loose : List Str} {mean : ExcName → Option Value} {mg mb : Str → Option Value} : ∀ n, KindTel w p loose mean mg mb n := by
  have all : ∀ n j, j < n → KindTel w p loose mean mg mb j := by
    intro n
    induction n with
    | zero => intro j h; exact absurd h (Nat.not_lt_zero _)
    | succ n ih => exact fun j h => kindof_tel j fun i hi => ih i (Nat.lt_of_lt_of_le hi (Nat.le_of_lt_succ h))
  exact fun n => all (n + 1) n (Nat.lt_succ_self _)

theorem kqdOk_succ : ∀ (n : Nat) (d : Dat), kqdOk n d = true → kqdOk (n + 1) d = true := by
  intro n
  induction n with
  | zero => intro d h; cases d <;> simp_all [kqdOk]
  | succ n ih =>
    intro d h
    cases d with
    | tuple ds => simp only [kqdOk, List.all_eq_true] at h ⊢; exact fun x hx => ih x (h x hx)
    | list ds => simp only [kqdOk, List.all_eq_true] at h ⊢; exact fun x hx => ih x (h x hx)
    | _ => simp_all [kqdOk]
theorem kqdOk_le {n k : Nat} {d : Dat} (h : kqdOk n d = true) (hk : n ≤ k) : kqdOk k d = true := by
  induction hk with
  | refl => exact h
  | step _ ih => exact kqdOk_succ _ _ ih

abbrev Off (src : Addr) (l : Led) : Prop := ∀ q ∈ l, q.1 ≠ src

def ValPost (n : Nat) (src : Addr) (o : Obj) (ep : Nat) (rest : Led) (r : Value) (nw : Led) : Prop :=
  ∃ tl x' y' t' u' a v kd dv dk, r = .ref a ∧ nw = (src, srcO x' y' t' u' ep) :: (tl ++ rest) ∧ Above ((src, o) :: rest) tl ∧ 0 ≤ x' ∧ 0 ≤ y' ∧ y' ≤ 2147483629 ∧
    (a, TupO [v, kd]) ∈ tl ∧ DatIn tl v dv ∧ DatIn tl kd dk ∧ KO n dv dk ∧ kqdOk (2 * n + 3) dk = true

def ValTel (w : World) (p : Program) (loose : List Str) (mean : ExcName → Option Value) (mg mb : Str → Option Value) (n : Nat) : Prop :=
  ∀ (src : Addr) (x y : Int) (t u tn : Tok) (ep : Nat) (rest : Led), Off src rest → 0 ≤ x → 0 ≤ y → y ≤ 2147483629 →
    Tel w p loose mean mg mb (4 * n + 8) (40 * n + 80) 268 [.ref src, .int n tn] ((src, srcO x y t u ep) :: rest) (ValPost n src (srcO x y t u ep) ep rest)

theorem digit_use {w : World} {p : Program} {loose : List Str} {mean : ExcName → Option Value} {mg mb : Str → Option Value}
    {dp un : Nat} {gd : Option (List Code)} {cn : Str} {cs : Scope} {a : Addr} {ccd : Value} {cl : List (Str × Addr)} {outer : List Env} {A₀ : Around} {base h₀ : Heap} {L : Addr} {m : Str → Option Value} {s : Shared}
    {Q E : Value → Shared → Prop} {src : Addr} {x y many : Int} {t u tm : Tok} {n : Nat} {rest : Led} (pre : Led)
    (B : Below A₀ base outer h₀) (F : Fr h₀ L s.heap m) (X : (hd.heap_39 w.params).In h₀) (N : News h₀ L s.heap (pre ++ (src, srcO x y t u n) :: rest)) (T : Top p loose mean mg mb h₀)
    (hoff1 : Off src pre) (hoff2 : Off src rest) (hx : 0 ≤ x) (hy : 0 ≤ y) (hy' : y ≤ 2147483629) (hm : 0 < many) (hm' : many ≤ 256)
    (hk : cs.kind = .function) (hd : dp + 2 < recursionLimit) (hu : un + 16 < cLine)
    (ret : ∀ d td x' y' t' u' h' tk', 0 ≤ d → d < many → 0 ≤ x' → 0 ≤ y' → y' ≤ 2147483629 → Fr h₀ L h' m → News h₀ L h' (pre ++ (src, srcO x' y' t' u' n) :: rest) → Q (.int d td) { s with heap := h', toks := tk' }) :
    wpAny (model PySem.Challenge.rw_pq0694_01.row.prog w) (ktrTop dp un gd cn cs L a ccd cl outer) (call (.ref 263) [.ref src, .int many tm]) Q E s := by
  refine tel_use (digit_tel src x y many t u tm n (pre ++ rest) (fun q hq => (List.mem_append.mp hq).elim (hoff1 q) (hoff2 q)) hx hy hy' hm hm') B F X N (fun q hq => ?_) T hk hd hu ?_
  · rcases List.mem_cons.mp hq with rfl | hq
    · exact memR (.head _)
    · exact (List.mem_append.mp hq).elim memA fun h => memR (.tail _ h)
  · rintro r nw h' tk' F' N' ⟨d, td, x', y', t', u', rfl, h1, h2, rfl, h3, h4, h5⟩
    refine ret d td x' y' t' u' h' tk' h1 h2 h3 h4 h5 F' fun q hq => N' q ?_
    rcases List.mem_append.mp hq with hq | hq
    · exact .tail _ (memA hq)
    · rcases List.mem_cons.mp hq with rfl | hq
      · exact .head _
      · exact .tail _ (memR hq)

section
variable {h₀ h' : Heap} {L L' : Addr} {m : Str → Option Value} {Q : Value → Shared → Prop} {s : Shared} {rest : Led} {src a : Addr} {n ep : Nat} {o : Obj} {x' y' : Int} {t' u' : Tok} {c1 c2 : Addr × Obj} {v kd : Value} {dv dk : Dat} {tk' : Nat}
theorem val_end (tl : Led) (hret : ∀ r nw h' tk', Fr h₀ L h' m → News h₀ L h' nw → ValPost n src o ep rest r nw → Q r { s with heap := h', toks := tk' })
    (F : Fr h₀ L h' m) (N : News h₀ L h' (tl ++ c1 :: c2 :: (src, srcO x' y' t' u' ep) :: rest)) (hL : src < L' ∧ AllLt L' rest) (hab : ∀ p ∈ tl, L' < p.1) (hx : 0 ≤ x') (hy : 0 ≤ y') (hy' : y' ≤ 2147483629)
    (hm : (a, TupO [v, kd]) ∈ tl) (hv : DatIn tl v dv) (hk : DatIn tl kd dk) (ko : KO n dv dk) (kq : kqdOk 3 dk = true) : Q (.ref a) { s with heap := h', toks := tk' } := by
  refine hret _ ((src, srcO x' y' t' u' ep) :: (tl ++ rest)) _ _ F (fun q hq => N q ?_) ⟨tl, x', y', t', u', a, v, kd, dv, dk, rfl, rfl, fun q hq p hp => ?_, hx, hy, hy', hm, hv, hk, ko, kqdOk_le kq (by omega)⟩
  · rcases List.mem_cons.mp hq with rfl | hq
    · exact memR (.tail _ (.tail _ (.head _)))
    · exact (List.mem_append.mp hq).elim memA fun h => memR (.tail _ (.tail _ (.tail _ h)))
  · refine Nat.lt_trans ?_ (hab p hp)
    rcases List.mem_cons.mp hq with rfl | hq
    · exact hL.1
    · exact lt_of_allLt hL.2 q hq
end

local macro_rules | `(tactic| k_mem) => `(tactic| (refine memL ?_; (repeat (first | exact memH | ktr_member | exact memA (by ktr_member) | refine memT ?_ | refine memR ?_)); done))
local macro_rules | `(tactic| walk_at "eval ListComp") => `(tactic| (k_here; refine Stop.go ?_))
local macro_rules | `(tactic| walk_at "call ref") => `(tactic| (k_here; (with_reducible first | show wpAny _ _ (call (Value.ref 263) _) _ _ _ | show wpAny _ _ (call (Value.ref 268) _) _ _ _); refine Stop.go ?_))
local macro_rules | `(tactic| k_room) => `(tactic| ktr_room)

theorem value_tel0 {w : World} {p : Program} {loose : List Str} {mean : ExcName → Option Value} {mg mb : Str → Option Value} : ValTel w p loose mean mg mb 0 := by
  intro src x y t u tn ep rest hoff hx hy hy'
  unfold Tel
  k_fill
  intro dp un gd cn cs a ccd cl outer A₀ base h₀ L m s Q E B F X N T hk hd' hu hret
  obtain ⟨ck, cnm, cg, cc, cm⟩ := cs
  dsimp only at hk
  subst hk
  refine wpAny_call ?_
  k_dflt k_enter
  k_steps
  refine Stop.out ?_
  k_dflt (refine' digit_use [_, _] ?B ?F ?X ?N ?T ?o1 hoff hx hy hy' ?hm ?hm2 ?hk ?hd ?hu ?ret)
  case B => k_asm
  case F => k_asm
  case X => k_asm
  case N => k_asm
  case T => k_asm
  case o1 => (repeat (refine List.forall_mem_cons.mpr ⟨by refine neN ?_; dsimp only; omega, ?_⟩)); exact List.forall_mem_nil _
  case hm => decide
  case hm2 => decide
  case hk => rfl
  case hd => ktr_room
  case hu => ktr_units
  case ret =>
    intro d td x1 y1 t1 u1 h1 tk1 hd0 hd1 hx1 hy1 hy1' F1 N1
    replace N1 := id N1
    dsimp only [List.cons_append, List.nil_append] at N1
    k_steps
    · refine Stop.out ?_
      k_dflt (refine' digit_use [_, _] ?B ?F ?X ?N ?T ?o1 hoff hx1 hy1 hy1' ?hm ?hm2 ?hk ?hd ?hu ?ret)
      case B => k_asm
      case F => k_asm
      case X => k_asm
      case N => k_asm
      case T => k_asm
      case o1 => (repeat (refine List.forall_mem_cons.mpr ⟨by refine neN ?_; dsimp only; omega, ?_⟩)); exact List.forall_mem_nil _
      case hm => decide
      case hm2 => decide
      case hk => rfl
      case hd => ktr_room
      case hu => ktr_units
      case ret =>
        intro e te x2 y2 t2 u2 h2 tk2 he0 he1 hx2 hy2 hy2' F2 N2
        replace N2 := id N2
        dsimp only [List.cons_append, List.nil_append] at N2
        k_steps
        refine val_end [_, _, _, _] hret (by assumption) (by assumption) (by first | assumption | exact ‹src < _ ∧ AllLt _ rest›) ?_ hx2 hy2 hy2' (.head _) ?_ ?_ (KO.int _ (Str.ofString "UInt8") (.int e)) (by decide +kernel)
        · (repeat (refine List.forall_mem_cons.mpr ⟨by refine ltN ?_; dsimp only; omega, ?_⟩)); exact List.forall_mem_nil _
        
        · exact .tuple (by k_mem) (.cons (.str _ _) (.cons (.str _ _) (.cons (.int _ _) .nil)))
        · exact .tuple (by k_mem) (.cons (.str _ _) (.cons (.str _ _) (.cons (.tuple (by k_mem) .nil) .nil)))
    · refine val_end [_, _, _, _] hret (by assumption) (by assumption) (by first | assumption | exact ‹src < _ ∧ AllLt _ rest›) ?_ hx1 hy1 hy1' (.head _) ?_ ?_ (KO.text _ (.bytes #[97, 98])) (by decide +kernel)
      · (repeat (refine List.forall_mem_cons.mpr ⟨by refine ltN ?_; dsimp only; omega, ?_⟩)); exact List.forall_mem_nil _
      
      · exact .tuple (by k_mem) (.cons (.str _ _) (.cons (.bytes _ _) .nil))
      · exact .tuple (by k_mem) (.cons (.str _ _) (.cons (.str _ _) (.cons (.tuple (by k_mem) .nil) .nil)))
    · refine val_end [_, _, _, _] hret (by assumption) (by assumption) (by first | assumption | exact ‹src < _ ∧ AllLt _ rest›) ?_ hx1 hy1 hy1' (.head _) ?_ ?_ (KO.sym _ (.str (Str.ofString "x"))) (by decide +kernel)
      · (repeat (refine List.forall_mem_cons.mpr ⟨by refine ltN ?_; dsimp only; omega, ?_⟩)); exact List.forall_mem_nil _
      
      · exact .tuple (by k_mem) (.cons (.str _ _) (.cons (.str _ _) .nil))
      · exact .tuple (by k_mem) (.cons (.str _ _) (.cons (.str _ _) (.cons (.tuple (by k_mem) .nil) .nil)))
    · refine val_end [_, _, _, _, _, _, _] hret (by assumption) (by assumption) (by first | assumption | exact ‹src < _ ∧ AllLt _ rest›) ?_ hx1 hy1 hy1' (.head _) ?_ ?_ (KO.type _ (.tuple [.str (Str.ofString "name"), .str (Str.ofString "Int8"), .tuple []])) (by decide +kernel)
      · (repeat (refine List.forall_mem_cons.mpr ⟨by refine ltN ?_; dsimp only; omega, ?_⟩)); exact List.forall_mem_nil _
      
      · exact .tuple (by k_mem) (.cons (.str _ _) (.cons (.tuple (by k_mem) (.cons (.str _ _) (.cons (.str _ _) (.cons (.tuple (by k_mem) .nil) .nil)))) .nil))
      · exact .tuple (by k_mem) (.cons (.str _ _) (.cons (.tuple (by k_mem) (.cons (.str _ _) (.cons (.str _ _) (.cons (.tuple (by k_mem) .nil) .nil)))) .nil))
    · refine val_end [_, _, _, _, _] hret (by assumption) (by assumption) (by first | assumption | exact ‹src < _ ∧ AllLt _ rest›) ?_ hx1 hy1 hy1' (.head _) ?_ ?_ (KO.clos _ (Str.ofString "#f.2") (.tuple [.tuple [.str (Str.ofString "nothing")]])) (by decide +kernel)
      · (repeat (refine List.forall_mem_cons.mpr ⟨by refine ltN ?_; dsimp only; omega, ?_⟩)); exact List.forall_mem_nil _
      
      · exact .tuple (by k_mem) (.cons (.str _ _) (.cons (.str _ _) (.cons (.tuple (by k_mem) (.cons (.tuple (by k_mem) (.cons (.str _ _) .nil)) .nil)) .nil)))
      · exact .tuple (by k_mem) (.cons (.str _ _) (.cons (.str _ _) .nil))
    · refine val_end [_, _, _, _, _, _, _, _, _] hret (by assumption) (by assumption) (by first | assumption | exact ‹src < _ ∧ AllLt _ rest›) ?_ hx1 hy1 hy1' (.head _) ?_ ?_ (KO.struct _ (.tuple [.str (Str.ofString "name"), .str (Str.ofString "P"), .tuple [.tuple [.str (Str.ofString "n"), .int 2]]]) (.tuple [])) (by decide +kernel)
      · (repeat (refine List.forall_mem_cons.mpr ⟨by refine ltN ?_; dsimp only; omega, ?_⟩)); exact List.forall_mem_nil _
      
      · exact .tuple (by k_mem) (.cons (.str _ _) (.cons (.tuple (by k_mem) (.cons (.str _ _) (.cons (.str _ _) (.cons (.tuple (by k_mem) (.cons (.tuple (by k_mem) (.cons (.str _ _) (.cons (.int _ _) .nil))) .nil)) .nil)))) (.cons (.tuple (by k_mem) .nil) .nil)))
      · exact .tuple (by k_mem) (.cons (.str _ _) (.cons (.str _ _) (.cons (.tuple (by k_mem) (.cons (.tuple (by k_mem) (.cons (.str _ _) (.cons (.int _ _) .nil))) .nil)) .nil)))
    · exfalso; omega
end Mine

namespace Mine

inductive RowsIn (n : Nat) (l : Led) : List Value → List (Value × Value) → List (Dat × Dat) → Prop
  | nil : RowsIn n l [] [] []
  | cons {a : Addr} {v k : Value} {dv dk : Dat} {ys : List Value} {vks : List (Value × Value)} {ps : List (Dat × Dat)} :
      (a, TupO [v, k]) ∈ l → DatIn l v dv → DatIn l k dk → KO n dv dk → kqdOk (2 * n + 3) dk = true → RowsIn n l ys vks ps → RowsIn n l (.ref a :: ys) ((v, k) :: vks) ((dv, dk) :: ps)

section
variable {n : Nat} {l l' : Led} {ys ys' : List Value} {vks vks' : List (Value × Value)} {ps ps' : List (Dat × Dat)}
theorem RowsIn.mono (h : RowsIn n l ys vks ps) (s : ∀ q ∈ l, q ∈ l') : RowsIn n l' ys vks ps := by
  induction h with
  | nil => exact .nil
  | cons h1 h2 h3 h4 h5 _ ih => exact .cons (s _ h1) (h2.mono s) (h3.mono s) h4 h5 ih
theorem RowsIn.app (h : RowsIn n l ys vks ps) (k : RowsIn n l ys' vks' ps') : RowsIn n l (ys ++ ys') (vks ++ vks') (ps ++ ps') := by
  induction h with
  | nil => exact k
  | cons h1 h2 h3 h4 h5 _ ih => exact .cons h1 h2 h3 h4 h5 ih
theorem RowsIn.len (h : RowsIn n l ys vks ps) : vks.length = ys.length ∧ ps.length = ys.length := by
  induction h with
  | nil => exact ⟨rfl, rfl⟩
  | cons _ _ _ _ _ _ ih => exact ⟨congrArg (· + 1) ih.1, congrArg (· + 1) ih.2⟩
theorem RowsIn.fsts (h : RowsIn n l ys vks ps) : DatAll l (vks.map Prod.fst) (ps.map Prod.fst) := by
  induction h with
  | nil => exact .nil
  | cons _ h2 _ _ _ _ ih => exact .cons h2 ih
theorem RowsIn.snds (h : RowsIn n l ys vks ps) : DatAll l (vks.map Prod.snd) (ps.map Prod.snd) := by
  induction h with
  | nil => exact .nil
  | cons _ _ h3 _ _ _ ih => exact .cons h3 ih
theorem RowsIn.kos (h : RowsIn n l ys vks ps) : ∀ p ∈ ps, KO n p.1 p.2 := by
  induction h with
  | nil => exact fun _ hp => nomatch hp
  | cons _ _ _ h4 _ _ ih =>
    intro p hp
    rcases List.mem_cons.mp hp with rfl | hp
    · exact h4
    · exact ih p hp
theorem RowsIn.oks (h : RowsIn n l ys vks ps) : ∀ d ∈ ps.map Prod.snd, kqdOk (2 * n + 3) d = true := by
  induction h with
  | nil => exact fun _ hp => nomatch hp
  | cons _ _ _ _ h5 _ ih =>
    intro d hd
    rcases List.mem_cons.mp hd with rfl | hd
    · exact h5
    · exact ih d hd
theorem RowsIn.at {i : Nat} {r : Value} (h : RowsIn n l ys vks ps) (hi : ys[i]? = some r) : ∃ a v k, r = .ref a ∧ (a, TupO [v, k]) ∈ l ∧ vks[i]? = some (v, k) := by
  induction h generalizing i with
  | nil => simp at hi
  | cons h1 _ _ _ _ _ ih =>
    cases i with
    | zero => simp at hi; exact ⟨_, _, _, hi.symm, h1, rfl⟩
    | succ i => simpa using ih (by simpa using hi)
end

theorem val_use {w : World} {p : Program} {loose : List Str} {mean : ExcName → Option Value} {mg mb : Str → Option Value}
    {dp un : Nat} {gd : Option (List Code)} {cn : Str} {cs : Scope} {a : Addr} {ccd : Value} {cl : List (Str × Addr)} {outer : List Env} {A₀ : Around} {base h₀ : Heap} {L : Addr} {m : Str → Option Value} {s : Shared}
    {Q E : Value → Shared → Prop} {src : Addr} {x y : Int} {t u tn : Tok} {n ep : Nat} {rest : Led} (C : ValTel w p loose mean mg mb n) (pre : Led)
    (B : Below A₀ base outer h₀) (F : Fr h₀ L s.heap m) (X : (hd.heap_39 w.params).In h₀) (N : News h₀ L s.heap (pre ++ (src, srcO x y t u ep) :: rest)) (T : Top p loose mean mg mb h₀)
    (hoff1 : Off src pre) (hoff2 : Off src rest) (hx : 0 ≤ x) (hy : 0 ≤ y) (hy' : y ≤ 2147483629)
    (hk : cs.kind = .function) (hd : dp + (4 * n + 8) < recursionLimit) (hu : un + (40 * n + 80) < cLine)
    (ret : ∀ b v kd dv dk tl x' y' t' u' h' tk', 0 ≤ x' → 0 ≤ y' → y' ≤ 2147483629 → Above (pre ++ (src, srcO x y t u ep) :: rest) tl → (b, TupO [v, kd]) ∈ tl → DatIn tl v dv → DatIn tl kd dk → KO n dv dk → kqdOk (2 * n + 3) dk = true →
      Fr h₀ L h' m → News h₀ L h' (pre ++ (src, srcO x' y' t' u' ep) :: (tl ++ rest)) → Q (.ref b) { s with heap := h', toks := tk' }) :
    wpAny (model PySem.Challenge.rw_pq0694_01.row.prog w) (ktrTop dp un gd cn cs L a ccd cl outer) (call (.ref 268) [.ref src, .int n tn]) Q E s := by
  refine tel_use (C src x y t u tn ep (pre ++ rest) (fun q hq => (List.mem_append.mp hq).elim (hoff1 q) (hoff2 q)) hx hy hy') B F X N (fun q hq => ?_) T hk hd hu ?_
  · rcases List.mem_cons.mp hq with rfl | hq
    · exact memR (.head _)
    · exact (List.mem_append.mp hq).elim memA fun h => memR (.tail _ h)
  · rintro r nw h' tk' F' N' ⟨tl, x', y', t', u', b, v, kd, dv, dk, rfl, rfl, hab, h1, h2, h3, h4, h5, h6, h7, h8⟩
    refine ret b v kd dv dk tl x' y' t' u' h' tk' h1 h2 h3 (hab.sub fun q hq => ?_) h4 h5 h6 h7 h8 F' fun q hq => N' q ?_
    · rcases List.mem_append.mp hq with hq | hq
      · exact .tail _ (memA hq)
      · rcases List.mem_cons.mp hq with rfl | hq
        · exact .head _
        · exact .tail _ (memR hq)
    · rcases List.mem_append.mp hq with hq | hq
      · exact .tail _ (memR (memA hq))
      · rcases List.mem_cons.mp hq with rfl | hq
        · exact .head _
        · exact (List.mem_append.mp hq).elim (fun h => .tail _ (memA h)) fun h => .tail _ (memR (memR h))

/-- what a building comprehension keeps: the source, the rows made so far -/
def InvV (n : Nat) (src : Addr) (o : Obj) (ep : Nat) (pre rest : Led) (i : Nat) (ys : List Value) (nw : Led) : Prop :=
  ∃ tl x y t u vks ps, nw = pre ++ (src, srcO x y t u ep) :: (tl ++ rest) ∧ Above (pre ++ (src, o) :: rest) tl ∧ 0 ≤ x ∧ 0 ≤ y ∧ y ≤ 2147483629 ∧ ys.length = i ∧ RowsIn n tl ys vks ps

section
open LCg
variable {prog : Program} {w : World} {h₀ h' : Heap} {L I C D src : Addr} {m : Str → Option Value} {oI oC oD o : Obj} {s₁ : Shared} {S : Led → Prop} {rest : Value → Led → Prop} {y : Value} {tk : Nat} {tl tl2 pre rst : Led} {x x' : Int} {z z' : Int} {t u t' u' : Tok} {ep : Nat}
theorem vturn_end (F : Fr h₀ L h' m) (N : News h₀ L h' (((I, oI) :: (C, oC) :: (D, oD) :: pre) ++ (src, srcO x' z' t' u' ep) :: (tl2 ++ (tl ++ rst)))) (off : Off3 I C D (pre ++ (src, srcO x z t u ep) :: (tl ++ rst)))
    (ab : Above (((I, oI) :: (C, oC) :: (D, oD) :: pre) ++ (src, srcO x z t u ep) :: (tl ++ rst)) tl2) (hS : S (pre ++ (src, srcO x' z' t' u' ep) :: ((tl2 ++ tl) ++ rst))) (r : rest y (pre ++ (src, srcO x' z' t' u' ep) :: ((tl2 ++ tl) ++ rst))) :
    CompEnd h₀ L m s₁ I oI C oC D oD S rest y { s₁ with heap := h', toks := tk } := by
  refine CompEnd.intro F N (pre ++ (src, srcO x' z' t' u' ep) :: ((tl2 ++ tl) ++ rst)) (fun p hp => ?_) (Off3.of fun p hp => ?_) hS r
  · rw [List.append_assoc] at hp
    exact hp
  · rcases List.mem_append.mp hp with hp | hp
    · exact off.mem p (memA hp)
    · rcases List.mem_cons.mp hp with rfl | hp
      · exact off.mem (src, srcO x z t u ep) (memR (.head _))
      · rw [List.append_assoc] at hp
        rcases List.mem_append.mp hp with hp | hp
        · exact ⟨Nat.ne_of_gt (ab (I, oI) (.head _) p hp), Nat.ne_of_gt (ab (C, oC) (.tail _ (.head _)) p hp), Nat.ne_of_gt (ab (D, oD) (.tail _ (.tail _ (.head _))) p hp)⟩
        · exact off.mem p (memR (.tail _ hp))

theorem invV_step {n i : Nat} {ys : List Value} {b : Addr} {v kd : Value} {dv dk : Dat} {vks : List (Value × Value)} {ps : List (Dat × Dat)} (hab : Above (pre ++ (src, o) :: rst) tl) (hab2 : Above (pre ++ (src, o) :: (tl ++ rst)) tl2)
    (hx : 0 ≤ x') (hz : 0 ≤ z') (hz' : z' ≤ 2147483629) (hl : ys.length = i) (hr : RowsIn n tl ys vks ps) (hm : (b, TupO [v, kd]) ∈ tl2) (hv : DatIn tl2 v dv) (hk : DatIn tl2 kd dk) (ko : KO n dv dk) (kq : kqdOk (2 * n + 3) dk = true) :
    InvV n src o ep pre rst (i + 1) (ys ++ [.ref b]) (pre ++ (src, srcO x' z' t' u' ep) :: ((tl2 ++ tl) ++ rst)) := by
  refine ⟨tl2 ++ tl, x', z', t', u', vks ++ [(v, kd)], ps ++ [(dv, dk)], rfl, Above.app (hab2.sub fun q hq => ?_) hab, hx, hz, hz', by rw [List.length_append, hl]; rfl, (hr.mono fun q hq => memR hq).app (.cons (memA hm) (hv.mono fun q hq => memA hq) (hk.mono fun q hq => memA hq) ko kq .nil)⟩
  rcases List.mem_append.mp hq with hq | hq
  · exact memA hq
  · rcases List.mem_cons.mp hq with rfl | hq
    · exact memR (.head _)
    · exact memR (.tail _ (memR hq))
end

theorem off_above {src : Addr} {o : Obj} {pre rest tl : Led} (h : Above (pre ++ (src, o) :: rest) tl) : Off src tl := fun q hq => Nat.ne_of_gt (h (src, o) (memR (.head _)) q hq)
theorem off_app {src : Addr} {l r : Led} (h : Off src l) (k : Off src r) : Off src (l ++ r) := fun q hq => (List.mem_append.mp hq).elim (h q) (k q)
theorem off_3 {I C D src : Addr} {oI oC oD o : Obj} {pre l : Led} (off : LCg.Off3 I C D (pre ++ (src, o) :: l)) (h : Off src pre) : Off src ((I, oI) :: (C, oC) :: (D, oD) :: pre) := by
  have z := off.mem (src, o) (memR (.head _))
  exact List.forall_mem_cons.mpr ⟨Ne.symm z.1, List.forall_mem_cons.mpr ⟨Ne.symm z.2.1, List.forall_mem_cons.mpr ⟨Ne.symm z.2.2, h⟩⟩⟩
end Mine

namespace Mine
theorem above_obj {src : Addr} {o o' : Obj} {pre rest tl : Led} (h : Above (pre ++ (src, o) :: rest) tl) : Above (pre ++ (src, o') :: rest) tl := by
  intro q hq p hp
  rcases List.mem_append.mp hq with hq | hq
  · exact h q (memA hq) p hp
  · rcases List.mem_cons.mp hq with rfl | hq
    · exact h (src, o) (memR (.head _)) p hp
    · exact h q (memR (.tail _ hq)) p hp

def InvP (zs : List Value) (N0 : Led) (i : Nat) (ys : List Value) (nw : Led) : Prop := nw = N0 ∧ ys = zs.take i
theorem invP_step {zs ys : List Value} {i : Nat} {v : Value} (h : ys = zs.take i) (hv : zs[i]? = some v) : ys ++ [v] = zs.take (i + 1) := by rw [h, List.take_add_one, hv]; rfl
section
variable {h₀ h' : Heap} {L L' : Addr} {m : Str → Option Value} {Q : Value → Shared → Prop} {s : Shared} {rest tl : Led} {src a1 a2 a3 a4 a5 : Addr} {n ep : Nat} {o o2 o3 o4 o5 : Obj} {e6 e5 eD c1 c2 : Addr × Obj} {x' y' : Int} {t' u' : Tok} {dv dk : Dat} {tk' : Nat}
theorem val_endS (hret : ∀ r nw h' tk', Fr h₀ L h' m → News h₀ L h' nw → ValPost n src o ep rest r nw → Q r { s with heap := h', toks := tk' }) (F : Fr h₀ L h' m)
    (N : News h₀ L h' ((a1, TupO [.ref a4, .ref a2]) :: (a2, o2) :: (a3, o3) :: e6 :: (a4, o4) :: (a5, o5) :: e5 :: eD :: c1 :: c2 :: (src, srcO x' y' t' u' ep) :: (tl ++ rest))) (hL : src < L' ∧ AllLt L' rest)
    (b1 : L' < a1) (b2 : L' < a2) (b3 : L' < a3) (b4 : L' < a4) (b5 : L' < a5) (ab : Above ([c1, c2] ++ (src, o) :: rest) tl) (hx : 0 ≤ x') (hy : 0 ≤ y') (hy' : y' ≤ 2147483629)
    (hv : DatIn ((a1, TupO [.ref a4, .ref a2]) :: (a2, o2) :: (a3, o3) :: (a4, o4) :: (a5, o5) :: tl) (.ref a4) dv) (hk : DatIn ((a1, TupO [.ref a4, .ref a2]) :: (a2, o2) :: (a3, o3) :: (a4, o4) :: (a5, o5) :: tl) (.ref a2) dk)
    (ko : KO n dv dk) (kq : kqdOk (2 * n + 3) dk = true) : Q (.ref a1) { s with heap := h', toks := tk' } := by
  have low : ∀ q ∈ (src, o) :: rest, q.1 < L' := List.forall_mem_cons.mpr ⟨hL.1, lt_of_allLt hL.2⟩
  have up : ∀ {a : Addr} {b : Obj} {r : Led}, L' < a → Above ((src, o) :: rest) r → Above ((src, o) :: rest) ((a, b) :: r) := fun h k => Above.cons (fun q hq => Nat.lt_trans (low q hq) h) k
  refine hret _ ((src, srcO x' y' t' u' ep) :: (((a1, TupO [.ref a4, .ref a2]) :: (a2, o2) :: (a3, o3) :: (a4, o4) :: (a5, o5) :: tl) ++ rest)) _ _ F (fun q hq => N q ?_)
    ⟨(a1, TupO [.ref a4, .ref a2]) :: (a2, o2) :: (a3, o3) :: (a4, o4) :: (a5, o5) :: tl, x', y', t', u', a1, .ref a4, .ref a2, dv, dk, rfl, rfl, up b1 (up b2 (up b3 (up b4 (up b5 (ab.sub fun q hq => memR hq))))), hx, hy, hy', .head _, hv, hk, ko, kq⟩
  simp only [List.cons_append, List.mem_cons, List.mem_append] at hq ⊢
  rcases hq with hq | hq | hq | hq | hq | hq | hq | hq <;> simp only [hq, true_or, or_true]
end

local macro_rules | `(tactic| k_mem) => `(tactic| (refine memL ?_; (repeat (first | exact memH | ktr_member | exact memA (by ktr_member) | refine memT ?_ | refine memR ?_)); done))
local macro_rules | `(tactic| walk_at "eval ListComp") => `(tactic| (k_here; refine Stop.go ?_))
local macro_rules | `(tactic| walk_at "exec Assign cons ListComp") => `(tactic| (k_here; refine Stop.go ?_))
local macro_rules | `(tactic| walk_at "call ref") => `(tactic| (k_here; (with_reducible first | show wpAny _ _ (call (Value.ref 263) _) _ _ _ | show wpAny _ _ (call (Value.ref 268) _) _ _ _); refine Stop.go ?_))
local macro_rules | `(tactic| walk_at "CompSrc") => `(tactic| (k_here; refine Stop.go ?_))
local macro_rules | `(tactic| walk_at "call type:tuple") => `(tactic| (k_here; (with_reducible show wpAny _ _ (call (Value.type _) [Value.ref _]) _ _ _); k_dflt (refine' kde_tupleOf ?k1 ?k2 ?k3 ?k4 ?k5 ?_; (case k1 => k_asm); (case k2 => k_asm); (case k3 => exact News.isList (by k_asm) (by k_mem)); (case k4 => (simp only [List.size_toArray]; omega)); (case k5 => exact rfl)); intro D' h' F' N' l1; (try k_lt l1); (try k_sweep)))
local macro_rules | `(tactic| k_room) => `(tactic| ktr_room)

theorem value_telS {w : World} {p : Program} {loose : List Str} {mean : ExcName → Option Value} {mg mb : Str → Option Value} (n : Nat) (IH : ValTel w p loose mean mg mb n) : ValTel w p loose mean mg mb (n + 1) := by
  intro src x y t u tn ep rest hoff hx hy hy'
  unfold Tel
  k_fill
  intro dp un gd cn cs a ccd cl outer A₀ base h₀ L m s Q E B F X N T hk hd' hu hret
  obtain ⟨ck, cnm, cg, cc, cm⟩ := cs
  dsimp only at hk
  subst hk
  refine wpAny_call ?_
  k_dflt k_enter
  k_steps
  refine Stop.out ?_
  k_dflt (refine' digit_use [_, _] ?B ?F ?X ?N ?T ?o1 hoff hx hy hy' ?hm ?hm2 ?hk ?hd ?hu ?ret)
  case B => k_asm
  case F => k_asm
  case X => k_asm
  case N => k_asm
  case T => k_asm
  case o1 => (repeat (refine List.forall_mem_cons.mpr ⟨by refine neN ?_; dsimp only; omega, ?_⟩)); exact List.forall_mem_nil _
  case hm => decide
  case hm2 => decide
  case hk => rfl
  case hd => ktr_room
  case hu => ktr_units
  case ret =>
    intro d td x1 y1 t1 u1 h1 tk1 hd0 hd1 hx1 hy1 hy1' F1 N1
    replace N1 := id N1
    dsimp only [List.cons_append, List.nil_append] at N1
    k_steps
    · refine Stop.out ?_
      k_dflt (refine' digit_use [_, _] ?B ?F ?X ?N ?T ?o1 hoff hx1 hy1 hy1' ?hm ?hm2 ?hk ?hd ?hu ?ret)
      case B => k_asm
      case F => k_asm
      case X => k_asm
      case N => k_asm
      case T => k_asm
      case o1 => (repeat (refine List.forall_mem_cons.mpr ⟨by refine neN ?_; dsimp only; omega, ?_⟩)); exact List.forall_mem_nil _
      case hm => decide
      case hm2 => decide
      case hk => rfl
      case hd => ktr_room
      case hu => ktr_units
      case ret =>
        intro e te x2 y2 t2 u2 h2 tk2 he0 he1 hx2 hy2 hy2' F2 N2
        replace N2 := id N2
        dsimp only [List.cons_append, List.nil_append] at N2
        k_steps
        refine val_end [_, _, _, _] hret (by assumption) (by assumption) (by first | assumption | exact ‹src < _ ∧ AllLt _ rest›) ?_ hx2 hy2 hy2' (.head _) ?_ ?_ (KO.int _ (Str.ofString "UInt8") (.int e)) (by decide +kernel)
        · (repeat (refine List.forall_mem_cons.mpr ⟨by refine ltN ?_; dsimp only; omega, ?_⟩)); exact List.forall_mem_nil _
        
        · exact .tuple (by k_mem) (.cons (.str _ _) (.cons (.str _ _) (.cons (.int _ _) .nil)))
        · exact .tuple (by k_mem) (.cons (.str _ _) (.cons (.str _ _) (.cons (.tuple (by k_mem) .nil) .nil)))
    · refine val_end [_, _, _, _] hret (by assumption) (by assumption) (by first | assumption | exact ‹src < _ ∧ AllLt _ rest›) ?_ hx1 hy1 hy1' (.head _) ?_ ?_ (KO.text _ (.bytes #[97, 98])) (by decide +kernel)
      · (repeat (refine List.forall_mem_cons.mpr ⟨by refine ltN ?_; dsimp only; omega, ?_⟩)); exact List.forall_mem_nil _
      
      · exact .tuple (by k_mem) (.cons (.str _ _) (.cons (.bytes _ _) .nil))
      · exact .tuple (by k_mem) (.cons (.str _ _) (.cons (.str _ _) (.cons (.tuple (by k_mem) .nil) .nil)))
    · refine val_end [_, _, _, _] hret (by assumption) (by assumption) (by first | assumption | exact ‹src < _ ∧ AllLt _ rest›) ?_ hx1 hy1 hy1' (.head _) ?_ ?_ (KO.sym _ (.str (Str.ofString "x"))) (by decide +kernel)
      · (repeat (refine List.forall_mem_cons.mpr ⟨by refine ltN ?_; dsimp only; omega, ?_⟩)); exact List.forall_mem_nil _
      
      · exact .tuple (by k_mem) (.cons (.str _ _) (.cons (.str _ _) .nil))
      · exact .tuple (by k_mem) (.cons (.str _ _) (.cons (.str _ _) (.cons (.tuple (by k_mem) .nil) .nil)))
    · refine val_end [_, _, _, _, _, _, _] hret (by assumption) (by assumption) (by first | assumption | exact ‹src < _ ∧ AllLt _ rest›) ?_ hx1 hy1 hy1' (.head _) ?_ ?_ (KO.type _ (.tuple [.str (Str.ofString "name"), .str (Str.ofString "Int8"), .tuple []])) (by decide +kernel)
      · (repeat (refine List.forall_mem_cons.mpr ⟨by refine ltN ?_; dsimp only; omega, ?_⟩)); exact List.forall_mem_nil _
      
      · exact .tuple (by k_mem) (.cons (.str _ _) (.cons (.tuple (by k_mem) (.cons (.str _ _) (.cons (.str _ _) (.cons (.tuple (by k_mem) .nil) .nil)))) .nil))
      · exact .tuple (by k_mem) (.cons (.str _ _) (.cons (.tuple (by k_mem) (.cons (.str _ _) (.cons (.str _ _) (.cons (.tuple (by k_mem) .nil) .nil)))) .nil))
    · refine val_end [_, _, _, _, _] hret (by assumption) (by assumption) (by first | assumption | exact ‹src < _ ∧ AllLt _ rest›) ?_ hx1 hy1 hy1' (.head _) ?_ ?_ (KO.clos _ (Str.ofString "#f.2") (.tuple [.tuple [.str (Str.ofString "nothing")]])) (by decide +kernel)
      · (repeat (refine List.forall_mem_cons.mpr ⟨by refine ltN ?_; dsimp only; omega, ?_⟩)); exact List.forall_mem_nil _
      
      · exact .tuple (by k_mem) (.cons (.str _ _) (.cons (.str _ _) (.cons (.tuple (by k_mem) (.cons (.tuple (by k_mem) (.cons (.str _ _) .nil)) .nil)) .nil)))
      · exact .tuple (by k_mem) (.cons (.str _ _) (.cons (.str _ _) .nil))
    · refine val_end [_, _, _, _, _, _, _, _, _] hret (by assumption) (by assumption) (by first | assumption | exact ‹src < _ ∧ AllLt _ rest›) ?_ hx1 hy1 hy1' (.head _) ?_ ?_ (KO.struct _ (.tuple [.str (Str.ofString "name"), .str (Str.ofString "P"), .tuple [.tuple [.str (Str.ofString "n"), .int 2]]]) (.tuple [])) (by decide +kernel)
      · (repeat (refine List.forall_mem_cons.mpr ⟨by refine ltN ?_; dsimp only; omega, ?_⟩)); exact List.forall_mem_nil _
      
      · exact .tuple (by k_mem) (.cons (.str _ _) (.cons (.tuple (by k_mem) (.cons (.str _ _) (.cons (.str _ _) (.cons (.tuple (by k_mem) (.cons (.tuple (by k_mem) (.cons (.str _ _) (.cons (.int _ _) .nil))) .nil)) .nil)))) (.cons (.tuple (by k_mem) .nil) .nil)))
      · exact .tuple (by k_mem) (.cons (.str _ _) (.cons (.str _ _) (.cons (.tuple (by k_mem) (.cons (.tuple (by k_mem) (.cons (.str _ _) (.cons (.int _ _) .nil))) .nil)) .nil)))
    · refine Stop.out ?_
      k_dflt (refine LCg.Assign_ListComp_U (F₀ := by k_asm) (by rfl) (by with_unfolding_all rfl) (by with_unfolding_all rfl) (by decide) (by rfl) (by decide) (by rfl) (by rfl) (by rfl) ?_)
      k_steps
      refine Stop.out ?_
      k_dflt (refine' digit_use [_, _] ?B ?F ?X ?N ?T ?o1 hoff hx1 hy1 hy1' ?hm ?hm2 ?hk ?hd ?hu ?ret)
      case B => k_asm
      case F => k_asm
      case X => k_asm
      case N => k_asm
      case T => k_asm
      case o1 => (repeat (refine List.forall_mem_cons.mpr ⟨by refine neN ?_; dsimp only; omega, ?_⟩)); exact List.forall_mem_nil _
      case hm => decide
      case hm2 => decide
      case hk => rfl
      case hd => ktr_room
      case hu => ktr_units
      case ret =>
        intro e te x2 y2 t2 u2 h2 tk2 he0 he1 hx2 hy2 hy2' F2 N2
        replace N2 := id N2
        dsimp only [List.cons_append, List.nil_append] at N2
        k_steps
        refine Stop.out ?_
        have he3 : e = 0 ∨ e = 1 ∨ e = 2 := by omega
        k_dflt (refine LCg.CompSrc.range (n := e.toNat) (by rfl) (by k_asm) (by k_asm) (by assumption) (by rcases he3 with rfl | rfl | rfl <;> decide) (by rcases he3 with rfl | rfl | rfl <;> decide) (by rw [sizeLine_eq]; omega) ?_)
        intro g
        refine compRest_inv (InvV n src (srcO x y t u ep) ep [_, _] rest) ?_ ?_ _ 0 [] _ (Nat.zero_add _) ⟨[], x2, y2, t2, u2, [], [], rfl, Above.nil, hx2, hy2, hy2', rfl, .nil⟩
        · rintro i ys nw v I oI C oC D m2 h3 tk3 E' hi hP hO hx' F3 N3 off ne ⟨tl, x3, y3, t3, u3, vks, ps, rfl, hab, hx3, hy3, hy3', hyl, hrows⟩
          replace N3 := id N3
          dsimp only [List.cons_append, List.nil_append] at N3
          k_steps
          refine Stop.out ?_
          have ed : (((n + 1 : Nat) : Int) - 1) = (n : Int) := by omega
          rw [ed]
          k_dflt (refine' val_use IH [_, _, _, _, _] ?B ?F ?X ?N ?T ?o1 ?o2 hx3 hy3 hy3' ?hk ?hd ?hu ?ret)
          case B => k_asm
          case F => k_asm
          case X => k_asm
          case N => k_asm
          case T => k_asm
          case o1 => exact off_3 off (by (repeat (refine List.forall_mem_cons.mpr ⟨by refine neN ?_; dsimp only; omega, ?_⟩)); exact List.forall_mem_nil _)
          case o2 => exact off_app (off_above hab) hoff
          case hk => rfl
          case hd => ktr_room
          case hu => ktr_units
          case ret =>
            intro b4 v4 kd4 dv4 dk4 tl4 x4 y4 t4 u4 h4 tk4 hx4 hy4 hy4' hab4 hm4 hv4 hk4 ko4 kq4 F4 N4
            k_steps
            exact vturn_end F4 N4 off hab4 trivial (invV_step hab (above_obj (hab4.sub fun q hq => .tail _ (.tail _ (.tail _ hq)))) hx4 hy4 hy4' hyl hrows hm4 hv4 hk4 ko4 kq4)
        · rintro ys nw ⟨tl, x3, y3, t3, u3, vks, ps, rfl, hab, hx3, hy3, hy3', hyl, hrows⟩
          unfold LCg.FinA
          intro D h3 tk3 F3 N3 o1
          replace N3 := id N3
          dsimp only [List.cons_append, List.nil_append] at N3
          dsimp only
          have hyl8 : ys.length ≤ 8 := by rw [hyl]; omega
          have hvl8 : (vks.map Prod.fst).length ≤ 8 := by rw [List.length_map, hrows.len.1]; exact hyl8
          have hkl8 : (vks.map Prod.snd).length ≤ 8 := by rw [List.length_map, hrows.len.1]; exact hyl8
          k_steps
          refine Stop.out ?_
          k_dflt (refine LCg.ListComp_U (F₀ := by k_asm) (by with_unfolding_all rfl) (by decide) (by rfl) (by decide) (by rfl) ?_)
          k_steps
          refine Stop.out ?_
          k_dflt (refine LCg.CompSrc.ledger (its := ys.toArray) (by rfl) (by k_asm) (by k_asm) (by k_mem) (by rw [List.size_toArray, sizeLine_eq]; omega) ?_)
          intro g5
          refine compRest_inv (InvP (vks.map Prod.fst) _) ?_ ?_ _ 0 [] _ (Nat.zero_add _) ⟨rfl, rfl⟩
          · rintro i zs nw v I oI C oC D5 m2 h5 tk5 E' hi hP hO hx' F5 N5 off ne ⟨rfl, hzs⟩
            obtain ⟨ra, rv, rk, rfl, hrm, hrv⟩ := hrows.at (by simpa using hP)
            k_steps
            exact compEnd_of (tl := []) (by assumption) (by assumption) Above.nil off (Or.inr ⟨_, .head _, rfl, _, rfl⟩) ⟨rfl, invP_step hzs (by rw [List.getElem?_map, hrv]; rfl)⟩
          · rintro zs nw ⟨rfl, hzs⟩
            have hzs8 : zs.length ≤ 8 := by rw [hzs, List.length_take]; omega
            unfold LCg.FinE
            intro D5 h5 tk5 F5 N5 o5
            dsimp only
            k_steps
            refine Stop.out ?_
            k_dflt (refine LCg.ListComp_U (F₀ := by k_asm) (by with_unfolding_all rfl) (by decide) (by rfl) (by decide) (by rfl) ?_)
            k_steps
            refine Stop.out ?_
            k_dflt (refine LCg.CompSrc.ledger (its := ys.toArray) (by rfl) (by k_asm) (by k_asm) (by k_mem) (by rw [List.size_toArray, sizeLine_eq]; omega) ?_)
            intro g6
            refine compRest_inv (InvP (vks.map Prod.snd) _) ?_ ?_ _ 0 [] _ (Nat.zero_add _) ⟨rfl, rfl⟩
            · rintro i zs6 nw v I oI C oC D6 m2 h6 tk6 E' hi hP hO hx' F6 N6 off ne ⟨rfl, hzs6⟩
              obtain ⟨ra, rv, rk, rfl, hrm, hrv⟩ := hrows.at (by simpa using hP)
              k_steps
              exact compEnd_of (tl := []) (by assumption) (by assumption) Above.nil off (Or.inr ⟨_, by k_mem, rfl, _, rfl⟩) ⟨rfl, invP_step hzs6 (by rw [List.getElem?_map, hrv]; rfl)⟩
            · rintro zs6 nw ⟨rfl, hzs6⟩
              have hzs68 : zs6.length ≤ 8 := by rw [hzs6, List.length_take]; omega
              unfold LCg.FinE
              intro D6 h6 tk6 F6 N6 o6
              dsimp only
              k_steps
              have hzv : zs = vks.map Prod.fst := by rw [hzs, List.size_toArray, List.take_of_length_le (by rw [List.length_map, hrows.len.1]; exact Nat.le_refl _)]
              have hzk : zs6 = vks.map Prod.snd := by rw [hzs6, List.size_toArray, List.take_of_length_le (by rw [List.length_map, hrows.len.1]; exact Nat.le_refl _)]
              refine val_endS hret (by assumption) (by assumption) (by first | assumption | exact ‹src < _ ∧ AllLt _ rest›) (by refine ltN ?_; omega) (by refine ltN ?_; omega) (by refine ltN ?_; omega) (by refine ltN ?_; omega) (by refine ltN ?_; omega) hab hx3 hy3 hy3' ?_ ?_ (KO.tup n ps (by rw [hrows.len.2]; exact hyl8) hrows.kos) ?_
              · exact .tuple (by k_mem) (.cons (.str _ _) (.cons (.tuple (vs := zs) (by k_mem) (by rw [hzv]; exact hrows.fsts.mono fun q hq => memT (memT (memT (memT (memT hq)))))) .nil))
              · exact .tuple (by k_mem) (.cons (.str _ _) (.cons (.tuple (vs := zs6) (by k_mem) (by rw [hzk]; exact hrows.snds.mono fun q hq => memT (memT (memT (memT (memT hq)))))) (.cons .none .nil)))
              · have e5 : 2 * (n + 1) + 3 = 2 * n + 3 + 1 + 1 := by omega
                have st : kqdOk (2 * n + 3 + 1) (.str (Str.ofString "tuple")) = true := kqdOk_le (n := 0) (by decide +kernel) (by omega)
                have ks : kqdOk (2 * n + 3 + 1) (.tuple (ps.map Prod.snd)) = true := by simp only [kqdOk, List.all_eq_true]; exact hrows.oks
                rw [e5]
                simp only [kqdOk, List.all_cons, List.all_nil, Bool.and_true, Bool.and_eq_true]
                exact ⟨by simpa [kqdOk] using st, by simpa [kqdOk] using ks⟩
end Mine

namespace Mine
theorem val_all {w : World} {p : Program} {loose : List Str} {mean : ExcName → Option Value} {mg mb : Str → Option Value} (n : Nat) : ValTel w p loose mean mg mb n := by
  induction n with
  | zero => exact value_tel0
  | succ n ih => exact value_telS n ih

abbrev pD : Dat := .tuple [.str (Str.ofString "name"), .str (Str.ofString "P"), .tuple [.tuple [.str (Str.ofString "n"), .int 2]]]
/-- what _law_callee hands back: the callee, its kind, its table's name, what it holds -/
inductive CalleeIn (l : Led) : Value → Value → Str → Value → Dat → Dat → Prop
  | func {c : Addr} {k : Value} {t1 t2 : Tok} : (c, TupO [.str (Str.ofString "fun") t1, .str (Str.ofString "f") t2]) ∈ l → DatIn l k (.tuple [.str (Str.ofString "fn"), .str (Str.ofString "f")]) →
      CalleeIn l (.ref c) k (Str.ofString "f") .none (.tuple [.str (Str.ofString "fun"), .str (Str.ofString "f")]) (.tuple [.str (Str.ofString "fn"), .str (Str.ofString "f")])
  | clos {c hd : Addr} {k : Value} {t1 t2 : Tok} {dh : Dat} : (c, TupO [.str (Str.ofString "closure") t1, .str (Str.ofString "#g.4") t2, .ref hd]) ∈ l → DatIn l (.ref hd) dh → DatIn l k (.tuple [.str (Str.ofString "fn"), .str (Str.ofString "#g.4")]) →
      CalleeIn l (.ref c) k (Str.ofString "#g.4") (.ref hd) (.tuple [.str (Str.ofString "closure"), .str (Str.ofString "#g.4"), dh]) (.tuple [.str (Str.ofString "fn"), .str (Str.ofString "#g.4")])
  | type {c : Addr} {kk k : Value} {t1 : Tok} : (c, TupO [.str (Str.ofString "type") t1, kk]) ∈ l → DatIn l kk pD → DatIn l k (.tuple [.str (Str.ofString "typeof"), pD]) →
      CalleeIn l (.ref c) k (Str.ofString "P") .none (.tuple [.str (Str.ofString "type"), pD]) (.tuple [.str (Str.ofString "typeof"), pD])

section
variable {l l' : Led} {c k hd : Value} {tb : Str} {dc dk : Dat}
theorem CalleeIn.mono (h : CalleeIn l c k tb hd dc dk) (s : ∀ q ∈ l, q ∈ l') : CalleeIn l' c k tb hd dc dk := by
  cases h with
  | func h1 h2 => exact .func (s _ h1) (h2.mono s)
  | clos h1 h2 h3 => exact .clos (s _ h1) (h2.mono s) (h3.mono s)
  | type h1 h2 h3 => exact .type (s _ h1) (h2.mono s) (h3.mono s)
theorem CalleeIn.datC (h : CalleeIn l c k tb hd dc dk) : DatIn l c dc := by
  cases h with
  | func h1 h2 => exact .tuple h1 (.cons (.str _ _) (.cons (.str _ _) .nil))
  | clos h1 h2 h3 => exact .tuple h1 (.cons (.str _ _) (.cons (.str _ _) (.cons h2 .nil)))
  | type h1 h2 h3 => exact .tuple h1 (.cons (.str _ _) (.cons h2 .nil))
theorem CalleeIn.datK (h : CalleeIn l c k tb hd dc dk) : DatIn l k dk := by
  cases h with
  | func h1 h2 => exact h2
  | clos h1 h2 h3 => exact h3
  | type h1 h2 h3 => exact h3
theorem CalleeIn.ko (h : CalleeIn l c k tb hd dc dk) : KO 0 dc dk := by
  cases h with
  | func h1 h2 => exact .func 0 _
  | clos h1 h2 h3 => exact .clos 0 _ _
  | type h1 h2 h3 => exact .type 0 _
theorem CalleeIn.kq (h : CalleeIn l c k tb hd dc dk) : kqdOk 4 dk = true := by
  cases h <;> decide +kernel
end

def CalleePost (src : Addr) (o : Obj) (ep : Nat) (rest : Led) (r : Value) (nw : Led) : Prop :=
  ∃ tl x' y' t' u' a c k tb tt hd dc dk, r = .ref a ∧ nw = (src, srcO x' y' t' u' ep) :: (tl ++ rest) ∧ Above ((src, o) :: rest) tl ∧ 0 ≤ x' ∧ 0 ≤ y' ∧ y' ≤ 2147483629 ∧ (a, TupO [c, k, .str tb tt, hd]) ∈ tl ∧ CalleeIn tl c k tb hd dc dk

section
variable {h₀ h' : Heap} {L L' : Addr} {m : Str → Option Value} {Q : Value → Shared → Prop} {s : Shared} {rest : Led} {src a : Addr} {ep : Nat} {o : Obj} {x' y' : Int} {t' u' tt : Tok} {c k hd : Value} {tb : Str} {dc dk : Dat} {tk' : Nat}
theorem callee_end (tl : Led) (hret : ∀ r nw h' tk', Fr h₀ L h' m → News h₀ L h' nw → CalleePost src o ep rest r nw → Q r { s with heap := h', toks := tk' })
    (F : Fr h₀ L h' m) (N : News h₀ L h' (tl ++ (src, srcO x' y' t' u' ep) :: rest)) (hab : Above ((src, o) :: rest) tl) (hx : 0 ≤ x') (hy : 0 ≤ y') (hy' : y' ≤ 2147483629)
    (hm : (a, TupO [c, k, .str tb tt, hd]) ∈ tl) (hc : CalleeIn tl c k tb hd dc dk) : Q (.ref a) { s with heap := h', toks := tk' } := by
  refine hret _ ((src, srcO x' y' t' u' ep) :: (tl ++ rest)) _ _ F (fun q hq => N q ?_) ⟨tl, x', y', t', u', a, c, k, tb, tt, hd, dc, dk, rfl, rfl, hab, hx, hy, hy', hm, hc⟩
  rcases List.mem_cons.mp hq with rfl | hq
  · exact memR (.head _)
  · exact (List.mem_append.mp hq).elim memA fun h => memR (.tail _ h)
theorem above_base {l tl : Led} {b : Addr} (h : AllLt b l) (k : ∀ p ∈ tl, b ≤ p.1) : Above l tl := fun q hq p hp => Nat.lt_of_lt_of_le (lt_of_allLt h q hq) (k p hp)
theorem leN {a b : Nat} (h : a ≤ b) : a ≤ b := h
end

local macro_rules | `(tactic| k_mem) => `(tactic| (refine memL ?_; (repeat (first | exact memH | ktr_member | exact memA (by ktr_member) | refine memT ?_ | refine memR ?_)); done))
local macro_rules | `(tactic| walk_at "call ref") => `(tactic| (k_here; (with_reducible first | show wpAny _ _ (call (Value.ref 263) _) _ _ _ | show wpAny _ _ (call (Value.ref 268) _) _ _ _); refine Stop.go ?_))
local macro_rules | `(tactic| k_room) => `(tactic| ktr_room)

theorem callee_tel {w : World} {p : Program} {loose : List Str} {mean : ExcName → Option Value} {mg mb : Str → Option Value} (src : Addr) (x y : Int) (t u : Tok) (ep : Nat) (rest : Led) (hoff : Off src rest) (hx : 0 ≤ x) (hy : 0 ≤ y) (hy' : y ≤ 2147483629) :
    Tel w p loose mean mg mb 8 80 275 [.ref src] ((src, srcO x y t u ep) :: rest) (CalleePost src (srcO x y t u ep) ep rest) := by
  unfold Tel
  k_fill
  intro dp un gd cn cs a ccd cl outer A₀ base h₀ L m s Q E B F X N T hk hd' hu hret
  obtain ⟨ck, cnm, cg, cc, cm⟩ := cs
  dsimp only at hk
  subst hk
  refine wpAny_call ?_
  k_dflt k_enter
  k_steps
  refine Stop.out ?_
  k_dflt (refine' digit_use [] ?B ?F ?X ?N ?T ?o1 hoff hx hy hy' ?hm ?hm2 ?hk ?hd ?hu ?ret)
  case B => k_asm
  case F => k_asm
  case X => k_asm
  case N => k_asm
  case T => k_asm
  case o1 => (repeat (refine List.forall_mem_cons.mpr ⟨by refine neN ?_; dsimp only; omega, ?_⟩)); exact List.forall_mem_nil _
  case hm => decide
  case hm2 => decide
  case hk => rfl
  case hd => ktr_room
  case hu => ktr_units
  case ret =>
    intro d td x1 y1 t1 u1 h1 tk1 hd0 hd1 hx1 hy1 hy1' F1 N1
    replace N1 := id N1
    dsimp only [List.cons_append, List.nil_append] at N1
    k_steps
    · refine callee_end [_, _, _] hret (by assumption) (by assumption) (above_base (b := _) ‹src < _ ∧ AllLt _ rest› ?_) hx1 hy1 hy1' (.head _) (.func (by k_mem) (.tuple (by k_mem) (.cons (.str _ _) (.cons (.str _ _) .nil))))
      · (repeat (refine List.forall_mem_cons.mpr ⟨by refine leN ?_; dsimp only; omega, ?_⟩)); exact List.forall_mem_nil _
    · refine Stop.out ?_
      k_dflt (refine' digit_use [] ?B ?F ?X ?N ?T ?o1 hoff hx1 hy1 hy1' ?hm ?hm2 ?hk ?hd ?hu ?ret)
      case B => k_asm
      case F => k_asm
      case X => k_asm
      case N => k_asm
      case T => k_asm
      case o1 => (repeat (refine List.forall_mem_cons.mpr ⟨by refine neN ?_; dsimp only; omega, ?_⟩)); exact List.forall_mem_nil _
      case hm => decide
      case hm2 => decide
      case hk => rfl
      case hd => ktr_room
      case hu => ktr_units
      case ret =>
        intro e te x2 y2 t2 u2 h2 tk2 he0 he1 hx2 hy2 hy2' F2 N2
        replace N2 := id N2
        dsimp only [List.cons_append, List.nil_append] at N2
        k_steps
        refine callee_end [_, _, _, _, _, _] hret (by assumption) (by assumption) (above_base (b := _) ‹src < _ ∧ AllLt _ rest› ?_) hx2 hy2 hy2' (.head _) (.clos (by k_mem) (.tuple (by k_mem) (.cons (.tuple (by k_mem) (.cons (.str _ _) (.cons (.str _ _) (.cons (.int _ _) .nil)))) (.cons (.tuple (by k_mem) (.cons (.str _ _) (.cons (.bool _) .nil))) .nil))) (.tuple (by k_mem) (.cons (.str _ _) (.cons (.str _ _) .nil))))
        · (repeat (refine List.forall_mem_cons.mpr ⟨by refine leN ?_; dsimp only; omega, ?_⟩)); exact List.forall_mem_nil _
    · refine callee_end [_, _, _, _, _, _, _, _, _] hret (by assumption) (by assumption) (above_base (b := _) ‹src < _ ∧ AllLt _ rest› ?_) hx1 hy1 hy1' (.head _) (.type (by k_mem) (.tuple (by k_mem) (.cons (.str _ _) (.cons (.str _ _) (.cons (.tuple (by k_mem) (.cons (.tuple (by k_mem) (.cons (.str _ _) (.cons (.int _ _) .nil))) .nil)) .nil)))) (.tuple (by k_mem) (.cons (.str _ _) (.cons (.tuple (by k_mem) (.cons (.str _ _) (.cons (.str _ _) (.cons (.tuple (by k_mem) (.cons (.tuple (by k_mem) (.cons (.str _ _) (.cons (.int _ _) .nil))) .nil)) .nil)))) .nil))))
      · (repeat (refine List.forall_mem_cons.mpr ⟨by refine leN ?_; dsimp only; omega, ?_⟩)); exact List.forall_mem_nil _
end Mine

namespace Mine
open PySem.Calls PySem.Spec

/- values that compare equal: the same, equal words and numbers, tuples of such; n bounds the nesting -/
mutual
inductive Eqv (h : Heap) : Nat → Value → Value → Prop
  | same (n : Nat) (v : Value) : Eqv h n v v
  | str (n : Nat) (x : Str) (t u : Tok) : Eqv h n (.str x t) (.str x u)
  | int (n : Nat) (i : Int) (t u : Tok) : Eqv h n (.int i t) (.int i u)
  | tup (n : Nat) {a b : Addr} {xs ys : List Value} : h.IsTuple a xs.toArray → h.IsTuple b ys.toArray → EqvAll h n xs ys → Eqv h (n + 1) (.ref a) (.ref b)
  | list (n : Nat) {a b : Addr} {xs ys : List Value} : h.IsList a xs.toArray → h.IsList b ys.toArray → EqvAll h n xs ys → Eqv h (n + 1) (.ref a) (.ref b)
inductive EqvAll (h : Heap) : Nat → List Value → List Value → Prop
  | nil (n : Nat) : EqvAll h n [] []
  | cons {n : Nat} {x y : Value} {xs ys : List Value} : Eqv h n x y → EqvAll h n xs ys → EqvAll h n (x :: xs) (y :: ys)
end

theorem EqvAll.refl {h : Heap} {n : Nat} : ∀ xs : List Value, EqvAll h n xs xs
  | [] => .nil n
  | x :: xs => .cons (.same n x) (EqvAll.refl xs)
theorem EqvAll.of_eq {h : Heap} {n : Nat} {xs ys : List Value} (e : xs = ys) : EqvAll h n xs ys := e ▸ EqvAll.refl xs
theorem EqvAll.app {h : Heap} {n : Nat} : ∀ {xs ys us vs : List Value}, EqvAll h n xs ys → EqvAll h n us vs → EqvAll h n (xs ++ us) (ys ++ vs)
  | _, _, _, _, .nil _, k => k
  | _, _, _, _, .cons a b, k => .cons a (EqvAll.app b k)
theorem EqvAll.len {h : Heap} {n : Nat} : ∀ {xs ys : List Value}, EqvAll h n xs ys → xs.length = ys.length
  | _, _, .nil _ => rfl
  | _, _, .cons _ r => congrArg (· + 1) (EqvAll.len r)
theorem EqvAll.at {h : Heap} {n : Nat} : ∀ {xs ys : List Value} {j : Nat} (_ : EqvAll h n xs ys) (h1 : j < xs.length) (h2 : j < ys.length), Eqv h n xs[j] ys[j]
  | _, _, _, .nil _, h1, _ => absurd h1 (Nat.not_lt_zero _)
  | _, _, 0, .cons a _, _, _ => a
  | _, _, j + 1, .cons _ r, h1, h2 => EqvAll.at (j := j) r (Nat.lt_of_succ_lt_succ h1) (Nat.lt_of_succ_lt_succ h2)

theorem all_true (n : Nat) : (List.range n).all (fun _ => true) = true := by simp
theorem Eqv.eqAt {s : Shared} : ∀ (n : Nat) {v v' : Value} {A : Around}, Eqv s.heap n v v' → A.units + n < cLine → SeqAt.EqAt A s v v' true := by
  intro n
  induction n with
  | zero =>
    intro v v' A h _
    cases h with
    | same => exact SeqAt.EqAt.same v
    | str => exact (beq_self_eq_true (_ : Str)) ▸ SeqAt.EqAt.str_str _ _ _ _
    | int => exact (beq_self_eq_true (_ : Int)) ▸ SeqAt.EqAt.int_int _ _ _ _
  | succ n ih =>
    intro v v' A h hu
    cases h with
    | same => exact SeqAt.EqAt.same v
    | str => exact (beq_self_eq_true (_ : Str)) ▸ SeqAt.EqAt.str_str _ _ _ _
    | int => exact (beq_self_eq_true (_ : Int)) ▸ SeqAt.EqAt.int_int _ _ _ _
    | @tup _ a b xs ys ha hb hall =>
      by_cases hab : a = b
      · subst hab; exact SeqAt.EqAt.same _
      refine SeqAt.EqAt.of_refs hab ?_
      have e : ((List.range (min xs.toArray.size ys.toArray.size)).all (fun _ => true) && xs.toArray.size == ys.toArray.size) = true := by
        rw [all_true, Bool.true_and, List.size_toArray, List.size_toArray, hall.len]
        exact beq_self_eq_true _
      have q := SeqAt.RcAt.tuples (A := A) (s := s) (e := fun _ => true) ha hb (by omega) fun j h1 h2 => ih (hall.at (by simpa using h1) (by simpa using h2)) (by rw [Around.in1_units]; omega)
      rw [e] at q
      exact q
    | @list _ a b xs ys ha hb hall =>
      by_cases hab : a = b
      · subst hab; exact SeqAt.EqAt.same _
      refine SeqAt.EqAt.of_refs hab ?_
      have q := SeqAt.RcAt.lists (A := A) (s := s) (e := fun _ => true) ha hb (by rw [List.size_toArray, List.size_toArray, hall.len]) (by omega) fun j h1 h2 => ih (hall.at (by simpa using h1) (by simpa using h2)) (by rw [Around.in1_units]; omega)
      rw [all_true] at q
      exact q

section
variable {prog : Program} {w : World} {A : Around} {E : Value → Shared → Prop} {s : Shared} {a b : Addr} {xs ys : List Value} {Q : Value → Shared → Prop}
theorem ne_lists (n : Nat) (ha : s.heap.IsList a xs.toArray) (hb : s.heap.IsList b ys.toArray) (hall : EqvAll s.heap n xs ys) (hu : A.units + (n + 1) < cLine) (h : Q (.bool false) s) :
    wpAny (model prog w) A (compareOp .NotEq (.ref a) (.ref b)) Q E s := by
  have q := SeqAt.RcNeAt.lists (A := A) (s := s) (e := fun _ => true) ha hb (by rw [List.size_toArray, List.size_toArray, hall.len]) (by omega) fun j h1 h2 => Eqv.eqAt n (hall.at (by simpa using h1) (by simpa using h2)) (by rw [Around.in1_units]; omega)
  rw [all_true] at q
  exact q prog w E Q h
theorem eq_lists (n : Nat) (ha : s.heap.IsList a xs.toArray) (hb : s.heap.IsList b ys.toArray) (hall : EqvAll s.heap n xs ys) (hu : A.units + (n + 1) < cLine) (h : Q (.bool true) s) :
    wpAny (model prog w) A (compareOp .Eq (.ref a) (.ref b)) Q E s := by
  have q := SeqAt.RcAt.lists (A := A) (s := s) (e := fun _ => true) ha hb (by rw [List.size_toArray, List.size_toArray, hall.len]) (by omega) fun j h1 h2 => Eqv.eqAt n (hall.at (by simpa using h1) (by simpa using h2)) (by rw [Around.in1_units]; omega)
  rw [all_true] at q
  exact q prog w E Q h
theorem tup_e {xs ys : List Value} (hl : xs.length = ys.length) : ((List.range (min xs.toArray.size ys.toArray.size)).all (fun _ => true) && xs.toArray.size == ys.toArray.size) = true := by
  rw [all_true, Bool.true_and, List.size_toArray, List.size_toArray, hl]
  exact beq_self_eq_true _
theorem ne_tups (n : Nat) (ha : s.heap.IsTuple a xs.toArray) (hb : s.heap.IsTuple b ys.toArray) (hall : EqvAll s.heap n xs ys) (hu : A.units + (n + 1) < cLine) (h : Q (.bool false) s) :
    wpAny (model prog w) A (compareOp .NotEq (.ref a) (.ref b)) Q E s := by
  have q := SeqAt.RcNeAt.tuples (A := A) (s := s) (e := fun _ => true) ha hb (by omega) fun j h1 h2 => Eqv.eqAt n (hall.at (by simpa using h1) (by simpa using h2)) (by rw [Around.in1_units]; omega)
  rw [tup_e hall.len] at q
  exact q prog w E Q h
theorem eq_tups (n : Nat) (ha : s.heap.IsTuple a xs.toArray) (hb : s.heap.IsTuple b ys.toArray) (hall : EqvAll s.heap n xs ys) (hu : A.units + (n + 1) < cLine) (h : Q (.bool true) s) :
    wpAny (model prog w) A (compareOp .Eq (.ref a) (.ref b)) Q E s := by
  have q := SeqAt.RcAt.tuples (A := A) (s := s) (e := fun _ => true) ha hb (by omega) fun j h1 h2 => Eqv.eqAt n (hall.at (by simpa using h1) (by simpa using h2)) (by rw [Around.in1_units]; omega)
  rw [tup_e hall.len] at q
  exact q prog w E Q h
end

abbrev Held (h : Heap) (l : List (Addr × Obj)) : Prop := ∀ q ∈ l, h.get? q.1 = some q.2
theorem heldN {h₀ h : Heap} {L : Addr} {l : List (Addr × Obj)} (N : News h₀ L h l) : Held h l := fun q hq => (N q hq).1
theorem Held.app {h : Heap} {l r : List (Addr × Obj)} (a : Held h l) (b : Held h r) : Held h (l ++ r) := fun q hq => (List.mem_append.mp hq).elim (a q) (b q)
theorem Held.sub {h : Heap} {l r : List (Addr × Obj)} (a : Held h l) (s : ∀ q ∈ r, q ∈ l) : Held h r := fun q hq => a q (s q hq)

theorem eqv_dat {h : Heap} {l r : List (Addr × Obj)} (hl : Held h l) (hr : Held h r) : ∀ (n : Nat) (d : Dat) (v v' : Value), DatIn l v d → DatIn r v' d → kqdOk n d = true → Eqv h n v v' := by
  have all : ∀ (n : Nat), (∀ (d : Dat) (v v' : Value), DatIn l v d → DatIn r v' d → kqdOk n d = true → Eqv h n v v') → ∀ (ds : List Dat) (vs us : List Value), DatAll l vs ds → DatAll r us ds → (∀ d ∈ ds, kqdOk n d = true) → EqvAll h n vs us := by
    intro n ih ds
    induction ds with
    | nil => intro vs us h1 h2 _; cases h1; cases h2; exact .nil n
    | cons d ds hi =>
      intro vs us h1 h2 hk
      cases h1 with | cons p1 r1 => cases h2 with | cons p2 r2 => exact .cons (ih d _ _ p1 p2 (hk d (.head _))) (hi _ _ r1 r2 fun e he => hk e (.tail _ he))
  intro n
  induction n with
  | zero =>
    intro d v v' h1 h2 hk
    cases h1 <;> cases h2 <;> first | exact .same _ _ | exact .str _ _ _ _ | exact .int _ _ _ _ | (simp [kqdOk] at hk)
  | succ n ih =>
    intro d v v' h1 h2 hk
    cases h1 with
    | tuple m1 r1 => cases h2 with | tuple m2 r2 => exact .tup n ⟨_, hl _ m1, rfl, _, rfl⟩ ⟨_, hr _ m2, rfl, _, rfl⟩ (all n ih _ _ _ r1 r2 (by simpa [kqdOk] using hk))
    | list m1 r1 => cases h2 with | list m2 r2 => exact .list n ⟨_, hl _ m1, rfl, _, rfl⟩ ⟨_, hr _ m2, rfl, _, rfl⟩ (all n ih _ _ _ r1 r2 (by simpa [kqdOk] using hk))
    | bytes b t => simp [kqdOk] at hk
    | bool b => cases h2; exact .same _ _
    | none => cases h2; exact .same _ _
    | str x t => cases h2; exact .str _ _ _ _
    | int i t => cases h2; exact .int _ _ _ _

theorem eqv_all {h : Heap} {l r : List (Addr × Obj)} (hl : Held h l) (hr : Held h r) (n : Nat) : ∀ (ds : List Dat) (vs us : List Value), DatAll l vs ds → DatAll r us ds → (∀ d ∈ ds, kqdOk n d = true) → EqvAll h n vs us := by
  intro ds
  induction ds with
  | nil => intro vs us h1 h2 _; cases h1; cases h2; exact .nil n
  | cons d ds hi =>
    intro vs us h1 h2 hk
    cases h1 with | cons p1 r1 => cases h2 with | cons p2 r2 => exact .cons (eqv_dat hl hr n d _ _ p1 p2 (hk d (.head _))) (hi _ _ r1 r2 fun e he => hk e (.tail _ he))
theorem news_tuple {h₀ h : Heap} {L a : Addr} {vs : List Value} {n : Nat} {l : List (Addr × Obj)} (N : News h₀ L h l) (hm : (a, ({ cls := .type "tuple", data := .seq (List.toArray vs) n } : Obj)) ∈ l) : h.IsTuple a vs.toArray := ⟨_, (N _ hm).1, rfl, _, rfl⟩

/- slices of lists of any length -/
theorem sl_upto {vs : List Value} {y : Int} (h : 0 ≤ y) : (slicePick vs.toArray none (some y) none).toList = vs.take y.toNat := by
  have e : sliceBounds none (some y) none vs.toArray.size = (((0 : Nat) : Int), ((min y.toNat vs.toArray.size : Nat) : Int), 1) := by
    simp only [sliceBounds, Option.getD_none, show (1 : Int) > 0 by decide, if_true, if_neg (show ¬ (y < 0) by omega)]
    congr 1
    congr 1
    omega
  rw [kmk_pick_nat _ e]
  show ((vs.drop 0).take (min y.toNat vs.toArray.size - 0)) = _
  rw [List.drop_zero, Nat.sub_zero, List.size_toArray, kmk_take_min]
theorem sl_from {vs : List Value} {x : Int} (h : 0 ≤ x) : (slicePick vs.toArray (some x) none none).toList = vs.drop x.toNat := by
  have e : sliceBounds (some x) none none vs.toArray.size = (((min x.toNat vs.toArray.size : Nat) : Int), ((vs.toArray.size : Nat) : Int), 1) := by
    simp only [sliceBounds, Option.getD_none, show (1 : Int) > 0 by decide, if_true, if_neg (show ¬ (x < 0) by omega)]
    congr 1
    omega
  rw [kmk_pick_nat _ e]
  show ((vs.drop (min x.toNat vs.toArray.size)).take (vs.toArray.size - min x.toNat vs.toArray.size)) = _
  rw [List.size_toArray, kmk_drop_min, List.take_of_length_le (by rw [List.length_drop]; omega)]
theorem sl_last {vs : List Value} : (slicePick vs.toArray none (some (-1)) none).toList = vs.dropLast := by
  have e : sliceBounds none (some (-1)) none vs.toArray.size = (((0 : Nat) : Int), ((vs.toArray.size - 1 : Nat) : Int), 1) := by
    simp only [sliceBounds, Option.getD_none, show (1 : Int) > 0 by decide, if_true, if_pos (show (-1 : Int) < 0 by decide)]
    congr 1
    congr 1
    omega
  rw [kmk_pick_nat _ e]
  show ((vs.drop 0).take (vs.toArray.size - 1 - 0)) = _
  rw [List.drop_zero, Nat.sub_zero, List.size_toArray, List.dropLast_eq_take]
theorem add_e {xs ys : List Value} : xs.toArray.toList ++ ys.toArray.toList = xs ++ ys := rfl
end Mine

namespace Mine
open PySem.Calls PySem.Spec

def lawBody : List Stmt := match (PySem.Challenge.pw_pq0694_01.main.body[32]? : Option PySem.Stmt) with | some (.FunctionDef _ _ b _ _ _ _ _ _ _) => b | _ => []
def lawScope : Scope := match (PySem.Challenge.pw_pq0694_01.main.body[32]? : Option PySem.Stmt) with | some (.FunctionDef _ _ _ _ _ _ sc _ _ _) => sc | _ => default
abbrev lawEnv (L a : Addr) (ccd : Value) : Env := envX (Str.ofString "law") lawScope L a ccd [(Str.ofString "source", L + 1)]
abbrev lawA (dp un : Nat) (gd : Option (List Code)) (L a : Addr) (ccd : Value) (outer : List Env) : Around := ktrTop dp un gd (Str.ofString "law") lawScope L a ccd [(Str.ofString "source", L + 1)] outer
abbrev mSet (x : String) (v : Value) (m : Str → Option Value) : Str → Option Value := fun y => if y = Str.ofString x then some v else m y
def Nx (P : Shared → Prop) (fl : Flow) (s' : Shared) : Prop := fl = .next ∧ P s'
theorem fr_cong {h₀ h : Heap} {L : Addr} {m m' : Str → Option Value} (F : Fr h₀ L h m) (e : m = m') : Fr h₀ L h m' := e ▸ F
theorem mSet_self {m : Str → Option Value} {x : String} {v : Value} (h : m (Str.ofString x) = some v) : m = mSet x v m := by
  funext y
  dsimp only [mSet]
  split
  · next e => rw [e, h]
  · rfl
theorem fr_self {h₀ h : Heap} {L : Addr} {m : Str → Option Value} {x : String} {v : Value} (e : m (Str.ofString x) = some v) (F : Fr h₀ L h m) : Fr h₀ L h (mSet x v m) := fr_cong F (mSet_self e)
theorem mSet_get {m : Str → Option Value} {x : String} {v : Value} : mSet x v m (Str.ofString x) = some v := if_pos rfl
theorem mSet_mSet {m : Str → Option Value} {x : String} {v v' : Value} : mSet x v (mSet x v' m) = mSet x v m := by
  funext y
  dsimp only [mSet]
  split
  · rfl
  · rfl
local macro_rules | `(tactic| k_mem) => `(tactic| (refine memL ?_; (repeat (first | exact memH | ktr_member | exact memA (by ktr_member) | refine memT ?_ | refine memR ?_)); done))
local macro_rules | `(tactic| walk_at "eval ListComp") => `(tactic| (k_here; refine Stop.go ?_))
local macro_rules | `(tactic| walk_at "exec Assign cons ListComp") => `(tactic| (k_here; refine Stop.go ?_))
local macro_rules | `(tactic| walk_at "call ref") => `(tactic| (k_here; (with_reducible first | show wpAny _ _ (call (Value.ref 263) _) _ _ _ | show wpAny _ _ (call (Value.ref 268) _) _ _ _ | show wpAny _ _ (call (Value.ref 275) _) _ _ _ | show wpAny _ _ (call (Value.ref 161) _) _ _ _); refine Stop.go ?_))
local macro_rules | `(tactic| walk_at "CompSrc") => `(tactic| (k_here; refine Stop.go ?_))
local macro_rules | `(tactic| k_room) => `(tactic| ktr_room)
theorem blk2 {w : World} {p : Program} {loose : List Str} {mean : ExcName → Option Value} {mg mb : Str → Option Value} {dp un : Nat} {gd : Option (List Code)} {L a : Addr} {ccd : Value} {outer : List Env} {A₀ : Around} {base h₀ : Heap} {m : Str → Option Value} {s : Shared} {E : Value → Shared → Prop} {src : Addr} {oc : Obj} {x y : Int} {t u : Tok} {ep : Nat} {rest : Led}  (B : Below A₀ base outer h₀) (F : Fr h₀ L s.heap m) (X : (hd.heap_39 w.params).In h₀) (N : News h₀ L s.heap ((src, srcO x y t u ep) :: rest)) (T : Top p loose mean mg mb h₀) (hd' : dp + 40 < recursionLimit) (hu : un + 400 < cLine) (hoff : Off src rest) (hx : 0 ≤ x) (hy : 0 ≤ y) (hy' : y ≤ 2147483629) (hoc : oc.data = .cell (some (.ref src))) (hcell : (L + 1, oc) ∈ rest) :
    ∀ st1, lawBody[1]? = some st1 → wpAny (model PySem.Challenge.rw_pq0694_01.row.prog w) (lawA dp un gd L a ccd outer) (exec st1 (lawEnv L a ccd))
      (Nx fun s' => ∃ h' tk' x' y' t' u' rest' c k tb tt hd dc dk, s' = { s with heap := h', toks := tk' } ∧ 0 ≤ x' ∧ 0 ≤ y' ∧ y' ≤ 2147483629 ∧ (∀ q ∈ rest, q ∈ rest') ∧ Off src rest' ∧ News h₀ L h' ((src, srcO x' y' t' u' ep) :: rest') ∧ Fr h₀ L h' (mSet "held" hd (mSet "table" (.str tb tt) (mSet "kind" k (mSet "callee" c m)))) ∧ CalleeIn rest' c k tb hd dc dk) E s := by
  revert X
  k_fill
  intro X st1 e1
  cases e1
  k_steps
  refine Stop.out ?_
  k_dflt (refine' tel_use (callee_tel src x y t u ep rest hoff hx hy hy') ?B ?F ?X ?N (fun _ h => h) ?T ?hk ?hd ?hu ?ret)
  case B => k_asm
  case F => k_asm
  case X => k_asm
  case N => k_asm
  case T => k_asm
  case hk => rfl
  case hd => ktr_room
  case hu => ktr_units
  case ret =>
    rintro r nw h1 tk1 F1 N1 ⟨tl, x1, y1, t1, u1, ra, c, k, tb, tt, hdv, dc, dk, rfl, rfl, hab, hx1, hy1, hy1', hm, hc⟩
    k_steps
    exact ⟨rfl, _, _, x1, y1, t1, u1, tl ++ rest, c, k, tb, tt, hdv, dc, dk, rfl, hx1, hy1, hy1', fun q hq => memR hq, off_app (fun q hq => Nat.ne_of_gt (hab (src, _) (.head _) q hq)) hoff, by assumption, by assumption, hc.mono fun q hq => memA hq⟩
end Mine

namespace Mine
open PySem.Calls PySem.Spec
local macro_rules | `(tactic| k_mem) => `(tactic| (refine memL ?_; (repeat (first | exact memH | ktr_member | exact memA (by ktr_member) | refine memT ?_ | refine memR ?_)); done))
local macro_rules | `(tactic| walk_at "eval ListComp") => `(tactic| (k_here; refine Stop.go ?_))
local macro_rules | `(tactic| walk_at "exec Assign cons ListComp") => `(tactic| (k_here; refine Stop.go ?_))
local macro_rules | `(tactic| walk_at "call ref") => `(tactic| (k_here; (with_reducible first | show wpAny _ _ (call (Value.ref 263) _) _ _ _ | show wpAny _ _ (call (Value.ref 268) _) _ _ _ | show wpAny _ _ (call (Value.ref 275) _) _ _ _ | show wpAny _ _ (call (Value.ref 161) _) _ _ _); refine Stop.go ?_))
local macro_rules | `(tactic| walk_at "CompSrc") => `(tactic| (k_here; refine Stop.go ?_))
local macro_rules | `(tactic| k_room) => `(tactic| ktr_room)
theorem blk3 {w : World} {p : Program} {loose : List Str} {mean : ExcName → Option Value} {mg mb : Str → Option Value} {dp un : Nat} {gd : Option (List Code)} {L a : Addr} {ccd : Value} {outer : List Env} {A₀ : Around} {base h₀ : Heap} {m : Str → Option Value} {s : Shared} {E : Value → Shared → Prop} {src : Addr} {oc : Obj} {x y : Int} {t u : Tok} {ep : Nat} {rest : Led}  (B : Below A₀ base outer h₀) (F : Fr h₀ L s.heap m) (X : (hd.heap_39 w.params).In h₀) (N : News h₀ L s.heap ((src, srcO x y t u ep) :: rest)) (T : Top p loose mean mg mb h₀) (hd' : dp + 40 < recursionLimit) (hu : un + 400 < cLine) (hoff : Off src rest) (hx : 0 ≤ x) (hy : 0 ≤ y) (hy' : y ≤ 2147483629) (hoc : oc.data = .cell (some (.ref src))) (hcell : (L + 1, oc) ∈ rest) :
    ∀ st2 st3 st4, lawBody[2]? = some st2 → lawBody[3]? = some st3 → lawBody[4]? = some st4 → wpAny (model PySem.Challenge.rw_pq0694_01.row.prog w) (lawA dp un gd L a ccd outer) (execs [st2, st3, st4] (lawEnv L a ccd))
      (Nx fun s' => ∃ h' tk' x' y' t' u' rest' many tm fx tf b, s' = { s with heap := h', toks := tk' } ∧ 0 ≤ x' ∧ 0 ≤ y' ∧ y' ≤ 2147483629 ∧ (∀ q ∈ rest, q ∈ rest') ∧ Off src rest' ∧ News h₀ L h' ((src, srcO x' y' t' u' ep) :: rest') ∧ Fr h₀ L h' (mSet "fixed" (.int fx tf) (mSet "has_rest" (.bool b) (mSet "many" (.int many tm) m))) ∧ 0 ≤ many ∧ many ≤ 4 ∧ (b = true → 0 < many) ∧ fx = many - (if b = true then 1 else 0)) E s := by
  revert X
  k_fill
  intro X st2 st3 st4 e2 e3 e4
  cases e2
  cases e3
  cases e4
  k_steps
  refine Stop.out ?_
  k_dflt (refine' digit_use [] ?B ?F ?X ?N ?T ?o1 ?o2 hx hy hy' ?hm ?hm2 ?hk ?hd ?hu ?ret)
  case B => k_asm
  case F => k_asm
  case X => k_asm
  case N => k_asm
  case T => k_asm
  case o1 => exact List.forall_mem_nil _
  case o2 => exact hoff
  case hm => decide
  case hm2 => decide
  case hk => rfl
  case hd => ktr_room
  case hu => ktr_units
  case ret =>
    intro d1 td1 x1 y1 t1 u1 h1 tk1 hd10 hd11 hx1 hy1 hy1' F1 N1
    replace N1 := id N1
    dsimp only [List.cons_append, List.nil_append] at N1
    k_steps
    refine Stop.out ?_
    k_dflt (refine' digit_use [] ?B ?F ?X ?N ?T ?o1 ?o2 hx1 hy1 hy1' ?hm ?hm2 ?hk ?hd ?hu ?ret)
    case B => k_asm
    case F => k_asm
    case X => k_asm
    case N => k_asm
    case T => k_asm
    case o1 => exact List.forall_mem_nil _
    case o2 => exact hoff
    case hm => decide
    case hm2 => decide
    case hk => rfl
    case hd => ktr_room
    case hu => ktr_units
    case ret =>
      intro d2 td2 x2 y2 t2 u2 h2 tk2 hd20 hd21 hx2 hy2 hy2' F2 N2
      replace N2 := id N2
      dsimp only [List.cons_append, List.nil_append] at N2
      k_steps
      · exact ⟨rfl, _, _, x2, y2, t2, u2, rest, _, _, _, _, decide (0 < d1), rfl, hx2, hy2, hy2', fun _ h => h, hoff, fun q hq => (by assumption : News h₀ L _ (_ :: (src, srcO x2 y2 t2 u2 ep) :: rest)) q (.tail _ hq), fr_cong (by assumption) (by funext z; dsimp only [mSet]; split; rfl; split; rfl; split; rfl; rfl), hd10, by omega, of_decide_eq_true, by rfl⟩
      · exact ⟨rfl, _, _, x2, y2, t2, u2, rest, _, _, _, _, (d2 == 0), rfl, hx2, hy2, hy2', fun _ h => h, hoff, fun q hq => (by assumption : News h₀ L _ (_ :: (src, srcO x2 y2 t2 u2 ep) :: rest)) q (.tail _ hq), fr_cong (by assumption) (by funext z; dsimp only [mSet]; split; rfl; split; rfl; split; rfl; rfl), hd10, by omega, fun h => absurd (eq_of_beq h) ‹d2 ≠ 0›, by rfl⟩
end Mine

namespace Mine
open PySem.Calls PySem.Spec
local macro_rules | `(tactic| k_mem) => `(tactic| (refine memL ?_; (repeat (first | exact memH | ktr_member | exact memA (by ktr_member) | refine memT ?_ | refine memR ?_)); done))
local macro_rules | `(tactic| walk_at "eval ListComp") => `(tactic| (k_here; refine Stop.go ?_))
local macro_rules | `(tactic| walk_at "exec Assign cons ListComp") => `(tactic| (k_here; refine Stop.go ?_))
local macro_rules | `(tactic| walk_at "call ref") => `(tactic| (k_here; (with_reducible first | show wpAny _ _ (call (Value.ref 263) _) _ _ _ | show wpAny _ _ (call (Value.ref 268) _) _ _ _ | show wpAny _ _ (call (Value.ref 275) _) _ _ _ | show wpAny _ _ (call (Value.ref 161) _) _ _ _); refine Stop.go ?_))
local macro_rules | `(tactic| walk_at "CompSrc") => `(tactic| (k_here; refine Stop.go ?_))
local macro_rules | `(tactic| k_room) => `(tactic| ktr_room)

theorem news_swap {h₀ h : Heap} {L : Addr} {c d : Addr × Obj} {l : Led} (N : News h₀ L h (d :: c :: l)) : News h₀ L h (c :: d :: l) := fun q hq => N q (by
  rcases List.mem_cons.mp hq with rfl | hq
  · exact .tail _ (.head _)
  · rcases List.mem_cons.mp hq with rfl | hq
    · exact .head _
    · exact .tail _ (.tail _ hq))
theorem blk5 {w : World} {p : Program} {loose : List Str} {mean : ExcName → Option Value} {mg mb : Str → Option Value} {dp un : Nat} {gd : Option (List Code)} {L a : Addr} {ccd : Value} {outer : List Env} {A₀ : Around} {base h₀ : Heap} {m : Str → Option Value} {s : Shared} {E : Value → Shared → Prop} {src : Addr} {oc : Obj} {x y : Int} {t u : Tok} {ep : Nat} {rest : Led} {fx : Int} {tf : Tok} {b : Bool} (hfx : m (Str.ofString "fixed") = some (.int fx tf)) (hhr : m (Str.ofString "has_rest") = some (.bool b)) (hf0 : 0 ≤ fx) (hf4 : fx ≤ 4) (B : Below A₀ base outer h₀) (F : Fr h₀ L s.heap m) (X : (hd.heap_39 w.params).In h₀) (N : News h₀ L s.heap ((src, srcO x y t u ep) :: rest)) (T : Top p loose mean mg mb h₀) (hd' : dp + 40 < recursionLimit) (hu : un + 400 < cLine) (hoff : Off src rest) (hx : 0 ≤ x) (hy : 0 ≤ y) (hy' : y ≤ 2147483629) (hoc : oc.data = .cell (some (.ref src))) (hcell : (L + 1, oc) ∈ rest) :
    ∀ st5, lawBody[5]? = some st5 → wpAny (model PySem.Challenge.rw_pq0694_01.row.prog w) (lawA dp un gd L a ccd outer) (exec st5 (lawEnv L a ccd))
      (Nx fun s' => ∃ h' tk' x' y' t' u' rest' ra ys vks ps, s' = { s with heap := h', toks := tk' } ∧ 0 ≤ x' ∧ 0 ≤ y' ∧ y' ≤ 2147483629 ∧ (∀ q ∈ rest, q ∈ rest') ∧ Off src rest' ∧ News h₀ L h' ((src, srcO x' y' t' u' ep) :: rest') ∧ Fr h₀ L h' (mSet "rows" (.ref ra) m) ∧ (ra, LCg.lst ys) ∈ rest' ∧ RowsIn 2 rest' ys vks ps ∧ ys.length ≤ 7 ∧ fx.toNat ≤ ys.length ∧ (b = false → ys.length = fx.toNat)) E s := by
  revert X
  k_fill
  intro X st5 e5
  cases e5
  replace F := fr_self ((if_neg (by decide)).trans hfx) (fr_self hhr F)
  cases b
  · k_steps
    refine Stop.out ?_
    k_dflt (refine LCg.Assign_ListComp_U (F₀ := by k_asm) (by rfl) (by with_unfolding_all rfl) (by with_unfolding_all rfl) (by decide) (by rfl) (by decide) (by rfl) (by rfl) (by rfl) ?_)
    k_steps
    have hn : fx + 0 = 0 ∨ fx + 0 = 1 ∨ fx + 0 = 2 ∨ fx + 0 = 3 ∨ fx + 0 = 4 := by omega
    refine Stop.out ?_
    k_dflt (refine LCg.CompSrc.range (n := (fx + 0).toNat) (by rfl) (by k_asm) (by k_asm) (by assumption) (by rcases hn with h | h | h | h | h <;> (rw [h]; decide)) (by rcases hn with h | h | h | h | h <;> (rw [h]; decide)) (by rw [sizeLine_eq]; omega) ?_)
    intro g
    refine compRest_inv (InvV 2 src (srcO x y t u ep) ep [] rest) ?_ ?_ _ 0 [] _ (Nat.zero_add _) ⟨[], x, y, t, u, [], [], rfl, Above.nil, hx, hy, hy', rfl, .nil⟩
    · rintro i ys nw v I oI C oC D m2 h3 tk3 E' hi hP hO hx' F3 N3 off ne ⟨tl, x3, y3, t3, u3, vks, ps, rfl, hab, hx3, hy3, hy3', hyl, hrows⟩
      replace N3 := id N3
      dsimp only [List.cons_append, List.nil_append] at N3
      k_steps
      refine Stop.out ?_
      k_dflt (refine' val_use (val_all 2) [_, _, _] ?B ?F ?X ?N ?T ?o1 ?o2 hx3 hy3 hy3' ?hk ?hd ?hu ?ret)
      case B => k_asm
      case F => k_asm
      case X => k_asm
      case N => k_asm
      case T => k_asm
      case o1 => exact off_3 off (List.forall_mem_nil _)
      case o2 => exact off_app (off_above hab) hoff
      case hk => rfl
      case hd => ktr_room
      case hu => ktr_units
      case ret =>
        intro b4 v4 kd4 dv4 dk4 tl4 x4 y4 t4 u4 h4 tk4 hx4 hy4 hy4' hab4 hm4 hv4 hk4 ko4 kq4 F4 N4
        k_steps
        exact vturn_end (pre := []) F4 N4 off hab4 trivial (invV_step hab (above_obj (hab4.sub fun q hq => .tail _ (.tail _ (.tail _ hq)))) hx4 hy4 hy4' hyl hrows hm4 hv4 hk4 ko4 kq4)
    · rintro ys nw ⟨tl, x3, y3, t3, u3, vks, ps, rfl, hab, hx3, hy3, hy3', hyl, hrows⟩
      unfold LCg.FinA
      intro D h3 tk3 F3 N3 o1
      replace N3 := id N3
      dsimp only [List.cons_append, List.nil_append] at N3
      dsimp only
      k_steps
      exact ⟨rfl, _, _, x3, y3, t3, u3, (D, LCg.lst ys) :: (tl ++ rest), D, ys, vks, ps, rfl, hx3, hy3, hy3', fun q hq => memT (memR hq), List.forall_mem_cons.mpr ⟨Ne.symm o1.1, off_app (off_above hab) hoff⟩, news_swap (by assumption), fr_cong (by assumption) (by funext z; dsimp only [mSet]; (repeat' split) <;> first | rfl | (rename_i e; rw [e]; first | exact hfx.symm | exact hhr.symm)), memH, hrows.mono fun q hq => memT (memA hq), by omega, by omega, by first | (intro h; omega) | (intro h; cases h)⟩
  · k_steps
    refine Stop.out ?_
    k_dflt (refine LCg.Assign_ListComp_U (F₀ := by k_asm) (by rfl) (by with_unfolding_all rfl) (by with_unfolding_all rfl) (by decide) (by rfl) (by decide) (by rfl) (by rfl) (by rfl) ?_)
    k_steps
    refine Stop.out ?_
    k_dflt (refine' digit_use [] ?B ?F ?X ?N ?T ?o1 ?o2 hx hy hy' ?hm ?hm2 ?hk ?hd ?hu ?ret)
    case B => k_asm
    case F => k_asm
    case X => k_asm
    case N => k_asm
    case T => k_asm
    case o1 => exact List.forall_mem_nil _
    case o2 => exact hoff
    case hm => decide
    case hm2 => decide
    case hk => rfl
    case hd => ktr_room
    case hu => ktr_units
    case ret =>
      intro d2 td2 x2 y2 t2 u2 h2 tk2 hd20 hd21 hx2 hy2 hy2' F2 N2
      replace N2 := id N2
      dsimp only [List.cons_append, List.nil_append] at N2
      k_steps
      have hn : fx + d2 = 0 ∨ fx + d2 = 1 ∨ fx + d2 = 2 ∨ fx + d2 = 3 ∨ fx + d2 = 4 ∨ fx + d2 = 5 ∨ fx + d2 = 6 ∨ fx + d2 = 7 := by omega
      refine Stop.out ?_
      k_dflt (refine LCg.CompSrc.range (n := (fx + d2).toNat) (by rfl) (by k_asm) (by k_asm) (by assumption) (by rcases hn with h | h | h | h | h | h | h | h <;> (rw [h]; decide)) (by rcases hn with h | h | h | h | h | h | h | h <;> (rw [h]; decide)) (by rw [sizeLine_eq]; omega) ?_)
      intro g
      refine compRest_inv (InvV 2 src (srcO x y t u ep) ep [] rest) ?_ ?_ _ 0 [] _ (Nat.zero_add _) ⟨[], x2, y2, t2, u2, [], [], rfl, Above.nil, hx2, hy2, hy2', rfl, .nil⟩
      · rintro i ys nw v I oI C oC D m2 h3 tk3 E' hi hP hO hx' F3 N3 off ne ⟨tl, x3, y3, t3, u3, vks, ps, rfl, hab, hx3, hy3, hy3', hyl, hrows⟩
        replace N3 := id N3
        dsimp only [List.cons_append, List.nil_append] at N3
        k_steps
        refine Stop.out ?_
        k_dflt (refine' val_use (val_all 2) [_, _, _] ?B ?F ?X ?N ?T ?o1 ?o2 hx3 hy3 hy3' ?hk ?hd ?hu ?ret)
        case B => k_asm
        case F => k_asm
        case X => k_asm
        case N => k_asm
        case T => k_asm
        case o1 => exact off_3 off (List.forall_mem_nil _)
        case o2 => exact off_app (off_above hab) hoff
        case hk => rfl
        case hd => ktr_room
        case hu => ktr_units
        case ret =>
          intro b4 v4 kd4 dv4 dk4 tl4 x4 y4 t4 u4 h4 tk4 hx4 hy4 hy4' hab4 hm4 hv4 hk4 ko4 kq4 F4 N4
          k_steps
          exact vturn_end (pre := []) F4 N4 off hab4 trivial (invV_step hab (above_obj (hab4.sub fun q hq => .tail _ (.tail _ (.tail _ hq)))) hx4 hy4 hy4' hyl hrows hm4 hv4 hk4 ko4 kq4)
      · rintro ys nw ⟨tl, x3, y3, t3, u3, vks, ps, rfl, hab, hx3, hy3, hy3', hyl, hrows⟩
        unfold LCg.FinA
        intro D h3 tk3 F3 N3 o1
        replace N3 := id N3
        dsimp only [List.cons_append, List.nil_append] at N3
        dsimp only
        k_steps
        exact ⟨rfl, _, _, x3, y3, t3, u3, (D, LCg.lst ys) :: (tl ++ rest), D, ys, vks, ps, rfl, hx3, hy3, hy3', fun q hq => memT (memR hq), List.forall_mem_cons.mpr ⟨Ne.symm o1.1, off_app (off_above hab) hoff⟩, news_swap (by assumption), fr_cong (by assumption) (by funext z; dsimp only [mSet]; (repeat' split) <;> first | rfl | (rename_i e; rw [e]; first | exact hfx.symm | exact hhr.symm)), memH, hrows.mono fun q hq => memT (memA hq), by omega, by omega, by first | (intro h; omega) | (intro h; cases h)⟩
end Mine

namespace Mine
open PySem.Calls PySem.Spec
local macro_rules | `(tactic| k_mem) => `(tactic| (refine memL ?_; (repeat (first | exact memH | ktr_member | exact memA (by ktr_member) | refine memT ?_ | refine memR ?_)); done))
local macro_rules | `(tactic| walk_at "eval ListComp") => `(tactic| (k_here; refine Stop.go ?_))
local macro_rules | `(tactic| walk_at "exec Assign cons ListComp") => `(tactic| (k_here; refine Stop.go ?_))
local macro_rules | `(tactic| walk_at "call ref") => `(tactic| (k_here; (with_reducible first | show wpAny _ _ (call (Value.ref 263) _) _ _ _ | show wpAny _ _ (call (Value.ref 268) _) _ _ _ | show wpAny _ _ (call (Value.ref 275) _) _ _ _ | show wpAny _ _ (call (Value.ref 161) _) _ _ _); refine Stop.go ?_))
local macro_rules | `(tactic| walk_at "CompSrc") => `(tactic| (k_here; refine Stop.go ?_))
local macro_rules | `(tactic| k_room) => `(tactic| ktr_room)
theorem blk6 {w : World} {p : Program} {loose : List Str} {mean : ExcName → Option Value} {mg mb : Str → Option Value} {dp un : Nat} {gd : Option (List Code)} {L a : Addr} {ccd : Value} {outer : List Env} {A₀ : Around} {base h₀ : Heap} {m : Str → Option Value} {s : Shared} {E : Value → Shared → Prop} {src : Addr} {oc : Obj} {x y : Int} {t u : Tok} {ep : Nat} {rest : Led} {ra : Addr} {ys : List Value} {vks : List (Value × Value)} {ps : List (Dat × Dat)} (hrr : m (Str.ofString "rows") = some (.ref ra)) (hra : (ra, LCg.lst ys) ∈ rest) (hrows : RowsIn 2 rest ys vks ps) (hyl : ys.length ≤ 7) (B : Below A₀ base outer h₀) (F : Fr h₀ L s.heap m) (X : (hd.heap_39 w.params).In h₀) (N : News h₀ L s.heap ((src, srcO x y t u ep) :: rest)) (T : Top p loose mean mg mb h₀) (hd' : dp + 40 < recursionLimit) (hu : un + 400 < cLine) (hoff : Off src rest) (hx : 0 ≤ x) (hy : 0 ≤ y) (hy' : y ≤ 2147483629) (hoc : oc.data = .cell (some (.ref src))) (hcell : (L + 1, oc) ∈ rest) :
    ∀ st6, lawBody[6]? = some st6 → wpAny (model PySem.Challenge.rw_pq0694_01.row.prog w) (lawA dp un gd L a ccd outer) (exec st6 (lawEnv L a ccd))
      (Nx fun s' => ∃ h' tk' x' y' t' u' rest' va, s' = { s with heap := h', toks := tk' } ∧ 0 ≤ x' ∧ 0 ≤ y' ∧ y' ≤ 2147483629 ∧ (∀ q ∈ rest, q ∈ rest') ∧ Off src rest' ∧ News h₀ L h' ((src, srcO x' y' t' u' ep) :: rest') ∧ Fr h₀ L h' (mSet "values" (.ref va) m) ∧ (va, LCg.lst (vks.map Prod.fst)) ∈ rest') E s := by
  revert X
  k_fill
  intro X st6 e6
  cases e6
  replace F := fr_self hrr F
  have hlen := hrows.len.1
  k_steps
  refine Stop.out ?_
  k_dflt (refine LCg.Assign_ListComp_U (F₀ := by k_asm) (by rfl) (by with_unfolding_all rfl) (by with_unfolding_all rfl) (by decide) (by rfl) (by decide) (by rfl) (by rfl) (by rfl) ?_)
  k_steps
  refine Stop.out ?_
  k_dflt (refine LCg.CompSrc.ledger (its := ys.toArray) (by rfl) (by k_asm) (by k_asm) (by k_mem) (by rw [List.size_toArray, sizeLine_eq]; omega) ?_)
  intro g5
  refine compRest_inv (InvP (vks.map Prod.fst) _) ?_ ?_ _ 0 [] _ (Nat.zero_add _) ⟨rfl, rfl⟩
  · rintro i zs nw v I oI C oC D5 m2 h5 tk5 E' hi hP hO hx' F5 N5 off ne ⟨rfl, hzs⟩
    obtain ⟨rx, rv, rk, rfl, hrm, hrv⟩ := hrows.at (by simpa using hP)
    k_steps
    exact compEnd_of (tl := []) (by assumption) (by assumption) Above.nil off (Or.inr ⟨_, memT hra, rfl, _, rfl⟩) ⟨rfl, invP_step hzs (by rw [List.getElem?_map, hrv]; rfl)⟩
  · rintro zs nw ⟨rfl, hzs⟩
    have hzv : zs = vks.map Prod.fst := by rw [hzs, List.size_toArray, List.take_of_length_le (by rw [List.length_map, hrows.len.1]; exact Nat.le_refl _)]
    subst hzv
    unfold LCg.FinA
    intro D h3 tk3 F3 N3 o1
    dsimp only
    k_steps
    exact ⟨rfl, _, _, x, y, t, u, (D, LCg.lst (vks.map Prod.fst)) :: rest, D, rfl, hx, hy, hy', fun q hq => memT hq, List.forall_mem_cons.mpr ⟨Ne.symm o1.1, hoff⟩, news_swap (by assumption), fr_cong (by assumption) (by funext z; dsimp only [mSet]; (repeat' split) <;> first | rfl | (rename_i e; rw [e]; first | exact hrr.symm)), memH⟩
end Mine

namespace Mine
open PySem.Calls PySem.Spec
section
variable {prog : Program} {w : World} {A : Around} {E : Value → Shared → Prop} {s : Shared}
/- a tuple's slice up to a known place -/
theorem sliceApplied_upto {sl : Addr} {k n hi : Int} {j : Nat} {u : Tok} {Q : Int × Int × Nat → Shared → Prop} (hs : s.heap.IsSliceOf sl .none (.int k u) .none) (h1 : Builtin.Slice.sliceAdjust none (some k) 1 n = (0, hi)) (h2 : Builtin.Slice.slicePlaces 0 hi 1 = j) (h : Q (0, 1, j) s) :
    wpAny (model prog w) A (Builtin.Slice.sliceApplied (.ref sl) (pure n)) Q E s := by
  obtain ⟨os, hos, hcs, hds⟩ := id hs
  unfold Builtin.Slice.sliceApplied Builtin.Slice.sliceFields
  refine wpAny_bind (wpAny_bind (wpAny_field hos hds (x := .none) rfl (wpAny_bind (wpAny_field hos hds (x := .int k u) rfl (wpAny_bind (wpAny_field hos hds (x := .none) rfl (wpAny_pure ?_)))))))
  refine wpAny_bind (slicePart_none ?_)
  show wpAny _ _ (if ((1 : Int) == 0) = true then _ else _) _ _ s
  rw [if_neg (by decide)]
  refine wpAny_bind (slicePart_none (wpAny_bind (slicePart_int (wpAny_bind (wpAny_pure ?_)))))
  show wpAny _ _ (match Builtin.Slice.sliceAdjust none (some k) 1 n with | (lo, hi) => pure (lo, (1 : Int), Builtin.Slice.slicePlaces lo hi 1)) _ _ s
  rw [h1]
  show wpAny _ _ (pure ((0 : Int), (1 : Int), Builtin.Slice.slicePlaces 0 hi 1)) _ _ s
  rw [h2]
  exact wpAny_pure h

theorem getItem_tuple_upto {t sl : Addr} {items : Array Value} {zs : List Value} {k hi : Int} {j : Nat} {u : Tok} {Q : Value → Shared → Prop} (ht : IsTup s.heap t items) (hs : s.heap.IsSliceOf sl .none (.int k u) .none)
    (h1 : Builtin.Slice.sliceAdjust none (some k) 1 (items.size : Int) = (0, hi)) (h2 : Builtin.Slice.slicePlaces 0 hi 1 = j) (h3 : (j == items.size) = false) (e : ((List.range j).filterMap fun (k : Nat) => items[((0 : Int) + (k : Int) * 1).toNat]?) = zs) (hz : zs.length ≤ sizeLine)
    (h : Q (.ref s.heap.objs.size) { s with heap := s.heap.push { cls := .type "tuple", data := .seq zs.toArray } }) : wpAny (model prog w) A (getItem (.ref t) (.ref sl)) Q E s := by
  have hdrop : sizeOk (.seq zs.toArray) := by
    show zs.toArray.size ≤ sizeLine
    rw [List.size_toArray]
    exact hz
  obtain ⟨os, hos, hcs, hds⟩ := id hs
  have hTs : s.TypeIs (.ref sl) "slice" := ⟨os, hos, hcs⟩
  unfold getItem
  try with_reducible refine wpAny_holding ?_
  first | refine wpAny_bind (wpAny_pure ?_) | skip
  refine wpAny_bind (wpAny_sequenceKey ht.typeIs (by decide) ?_)
  refine wpAny_bind (wpAny_callSpecial?_slot (name := Str.ofString "__getitem__") ht.typeIs slot_tuple_getitem
    (wpAny_call_entry slot_tuple_getitem ht.typeIs entry_tuple_getitem ?_ (args_tuple_getitem _ _)))
  show wpAny _ _ (Builtin.Tuple.tupleItemsOf (.ref t) >>= _) _ _ s
  refine wpAny_bind (tupleItemsOf_ ht ?_)
  refine wpAny_bind (wpAny_typeOf hTs ?_)
  rw [if_pos (by decide)]
  refine wpAny_bind (sliceApplied_upto hs h1 h2 ?_)
  have hno : ¬ (((0 : Int) == 0 && (1 : Int) == 1 && j == items.size) = true) := by
    rw [h3]; simp
  show wpAny _ _ (if ((0 : Int) == 0 && (1 : Int) == 1 && j == items.size) = true then _ else _) _ _ s
  rw [if_neg hno, e]
  first
    | exact wpAny_bind (m := Builtin.Tuple.tupleExact _) (wpAny_newObj_type (wpAny_pure ⟨_, rfl, wpAny_pure h⟩) hdrop)
    | exact wpAny_bind (m := Builtin.Tuple.tupleExact _) (wpAny_newObj_type (wpAny_bind (wpAny_pure (wpAny_pure ⟨_, rfl, wpAny_pure h⟩))) hdrop)
    | exact wpAny_bind (wpAny_bind (m := Builtin.Tuple.tupleExact _) (wpAny_newObj_type (wpAny_pure (wpAny_pure ⟨_, rfl, wpAny_pure h⟩)) hdrop))
    | exact wpAny_bind (wpAny_bind (m := Builtin.Tuple.tupleExact _) (wpAny_newObj_type (wpAny_pure ⟨_, rfl, wpAny_pure h⟩) hdrop))

theorem getItem_tuple_whole {t sl : Addr} {items : Array Value} {k hi : Int} {j : Nat} {u : Tok} {Q : Value → Shared → Prop} (ht : IsTup s.heap t items) (hs : s.heap.IsSliceOf sl .none (.int k u) .none)
    (h1 : Builtin.Slice.sliceAdjust none (some k) 1 (items.size : Int) = (0, hi)) (h2 : Builtin.Slice.slicePlaces 0 hi 1 = j) (h3 : (j == items.size) = true)
    (h : Q (.ref t) s) : wpAny (model prog w) A (getItem (.ref t) (.ref sl)) Q E s := by
  obtain ⟨os, hos, hcs, hds⟩ := id hs
  have hTs : s.TypeIs (.ref sl) "slice" := ⟨os, hos, hcs⟩
  obtain ⟨ot, hot, hct, nt, hdt⟩ := id ht
  unfold getItem
  try with_reducible refine wpAny_holding ?_
  first | refine wpAny_bind (wpAny_pure ?_) | skip
  refine wpAny_bind (wpAny_sequenceKey ht.typeIs (by decide) ?_)
  refine wpAny_bind (wpAny_callSpecial?_slot (name := Str.ofString "__getitem__") ht.typeIs slot_tuple_getitem
    (wpAny_call_entry slot_tuple_getitem ht.typeIs entry_tuple_getitem ?_ (args_tuple_getitem _ _)))
  show wpAny _ _ (Builtin.Tuple.tupleItemsOf (.ref t) >>= _) _ _ s
  refine wpAny_bind (tupleItemsOf_ ht ?_)
  refine wpAny_bind (wpAny_typeOf hTs ?_)
  rw [if_pos (by decide)]
  refine wpAny_bind (sliceApplied_upto hs h1 h2 ?_)
  have hyes : ((0 : Int) == 0 && (1 : Int) == 1 && j == items.size) = true := by
    rw [h3]; rfl
  show wpAny _ _ (if ((0 : Int) == 0 && (1 : Int) == 1 && j == items.size) = true then _ else _) _ _ s
  rw [if_pos hyes]
  refine wpAny_bind (m := Builtin.Tuple.tupleIsExact _) (wpAny_bind (wpAny_typeOf ht.typeIs (wpAny_pure ?_)))
  rw [if_pos (by rfl)]
  exact wpAny_bind (wpAny_rule (wpAny_pure ⟨_, rfl, wpAny_pure h⟩))
end
section
variable {prog : Program} {w : World} {A : Around} {E : Value → Shared → Prop} {s : Shared} {h₀ : Heap} {L : Addr} {m : Str → Option Value} {news : List (Addr × Obj)}
theorem slice_tuple_upto {value slice : Expr} {t : Addr} {items : Array Value} {zs : List Value} {k hi : Int} {j : Nat} {u : Tok} {Q : Value → Shared → Prop}
    (F : Fr h₀ L s.heap m) (N : News h₀ L s.heap news) (ht : IsTup s.heap t items)
    (h1 : Builtin.Slice.sliceAdjust none (some k) 1 (items.size : Int) = (0, hi)) (h2 : Builtin.Slice.slicePlaces 0 hi 1 = j) (h3 : (j == items.size) = false) (e : ((List.range j).filterMap fun (k : Nat) => items[((0 : Int) + (k : Int) * 1).toNat]?) = zs) (hz : zs.length ≤ sizeLine)
    (h : ∀ D h', Fr h₀ L h' m → News h₀ L h' ((D, { cls := .type "tuple", data := .seq zs.toArray }) :: news) → (∀ p ∈ news, p.1 < D) → Q (.ref D) { s with heap := h' })
    (hs : subscripted slice false (.ref t) (.ref s.heap.objs.size) = operate [.ref s.heap.objs.size, .ref t] (getItem (.ref t) (.ref s.heap.objs.size)))
    (hg : ∀ r, letTemporaryGo value (.ref t) r = pure ()) :
    wpAny (model prog w) A (subscriptTail value slice (.ref t) (.ref s.heap.objs.size)) Q E { s with heap := s.heap.push { cls := .type "slice", data := .fields #[.none, .int k u, .none] } } := by
  have ht' : IsTup (s.heap.push { cls := .type "slice", data := .fields #[.none, .int k u, .none] }) t items := ht.keeps fun _ _ e => Heap.get?_push_of_some _ e
  refine subscriptTail_ops (s := { s with heap := s.heap.push { cls := .type "slice", data := .fields #[.none, .int k u, .none] } }) ht'.typeIs slot_tuple_getitem.lookup
    (getItem_tuple_upto ht' (Heap.IsSliceOf.new ..) h1 h2 h3 e hz ?_) hs hg
  have N1 := News.push (F.push { cls := .type "slice", data := .fields #[.none, .int k u, .none] }) (N.grown fun _ _ e => Heap.get?_push_of_some _ e) { cls := .type "tuple", data := .seq zs.toArray }
  rw [Heap.size_push] at N1
  show Q (.ref (s.heap.push _).objs.size) _
  rw [Heap.size_push]
  exact h _ _ ((F.push _).push _) N1 fun p hp => Nat.lt_succ_of_lt (Heap.lt_size (N p hp).1)
theorem slice_tuple_whole {value slice : Expr} {t : Addr} {items : Array Value} {k hi : Int} {j : Nat} {u : Tok} {Q : Value → Shared → Prop}
    (F : Fr h₀ L s.heap m) (N : News h₀ L s.heap news) (ht : IsTup s.heap t items)
    (h1 : Builtin.Slice.sliceAdjust none (some k) 1 (items.size : Int) = (0, hi)) (h2 : Builtin.Slice.slicePlaces 0 hi 1 = j) (h3 : (j == items.size) = true)
    (h : ∀ h', Fr h₀ L h' m → News h₀ L h' news → Q (.ref t) { s with heap := h' })
    (hs : subscripted slice false (.ref t) (.ref s.heap.objs.size) = operate [.ref s.heap.objs.size, .ref t] (getItem (.ref t) (.ref s.heap.objs.size)))
    (hg : ∀ r, letTemporaryGo value (.ref t) r = pure ()) :
    wpAny (model prog w) A (subscriptTail value slice (.ref t) (.ref s.heap.objs.size)) Q E { s with heap := s.heap.push { cls := .type "slice", data := .fields #[.none, .int k u, .none] } } := by
  have ht' : IsTup (s.heap.push { cls := .type "slice", data := .fields #[.none, .int k u, .none] }) t items := ht.keeps fun _ _ e => Heap.get?_push_of_some _ e
  exact subscriptTail_ops (s := { s with heap := s.heap.push { cls := .type "slice", data := .fields #[.none, .int k u, .none] } }) ht'.typeIs slot_tuple_getitem.lookup
    (getItem_tuple_whole ht' (Heap.IsSliceOf.new ..) h1 h2 h3 (h _ (F.push _) (N.grown fun _ _ e => Heap.get?_push_of_some _ e))) hs hg
end
end Mine

namespace Mine
open PySem.Calls PySem.Spec

section
variable {prog : Program} {w : World} {A : Around} {E : Value → Shared → Prop} {s : Shared} {h₀ : Heap} {L : Addr} {m : Str → Option Value} {news : Led}
theorem slice_four {value slice : Expr} {t : Addr} {v1 v2 v3 v4 : Value} {k : Int} {u : Tok} {Q : Value → Shared → Prop} (hk : 0 ≤ k) (hk' : k ≤ 4) (F : Fr h₀ L s.heap m) (N : News h₀ L s.heap news) (ht : (t, TupO [v1, v2, v3, v4]) ∈ news)
    (h : ∀ D zs h', Fr h₀ L h' m → News h₀ L h' ((D, TupO zs) :: news) → zs.length = k.toNat → Q (.ref D) { s with heap := h' })
    (hs : subscripted slice false (.ref t) (.ref s.heap.objs.size) = operate [.ref s.heap.objs.size, .ref t] (getItem (.ref t) (.ref s.heap.objs.size)))
    (hg : ∀ r, letTemporaryGo value (.ref t) r = pure ()) :
    wpAny (model prog w) A (subscriptTail value slice (.ref t) (.ref s.heap.objs.size)) Q E { s with heap := s.heap.push { cls := .type "slice", data := .fields #[.none, .int k u, .none] } } := by
  have hc : k = 0 ∨ k = 1 ∨ k = 2 ∨ k = 3 ∨ k = 4 := by omega
  rcases hc with rfl | rfl | rfl | rfl | rfl
  · exact slice_tuple_upto (zs := []) (hi := 0) (j := 0) F N (News.isTup N ht) (by rfl) (by rfl) (by rfl) (by rfl) (Nat.le_of_ble_eq_true rfl) (fun D h' F' N' _ => h D _ h' F' N' rfl) hs hg
  · exact slice_tuple_upto (zs := [v1]) (hi := 1) (j := 1) F N (News.isTup N ht) (by rfl) (by rfl) (by rfl) (by rfl) (Nat.le_of_ble_eq_true rfl) (fun D h' F' N' _ => h D _ h' F' N' rfl) hs hg
  · exact slice_tuple_upto (zs := [v1, v2]) (hi := 2) (j := 2) F N (News.isTup N ht) (by rfl) (by rfl) (by rfl) (by rfl) (Nat.le_of_ble_eq_true rfl) (fun D h' F' N' _ => h D _ h' F' N' rfl) hs hg
  · exact slice_tuple_upto (zs := [v1, v2, v3]) (hi := 3) (j := 3) F N (News.isTup N ht) (by rfl) (by rfl) (by rfl) (by rfl) (Nat.le_of_ble_eq_true rfl) (fun D h' F' N' _ => h D _ h' F' N' rfl) hs hg
  · exact slice_tuple_whole (hi := 4) (j := 4) F N (News.isTup N ht) (by rfl) (by rfl) (by rfl) (fun h' F' N' => h t _ h' F' (fun q hq => (List.mem_cons.mp hq).elim (fun e => e ▸ N' _ ht) (N' q)) rfl) hs hg
theorem news_ne {h : Heap} {a b : Addr} {o o' : Obj} (N : News h₀ L h news) (h1 : (a, o) ∈ news) (h2 : (b, o') ∈ news) (hne : o.cls ≠ o'.cls) : a ≠ b := by
  rintro rfl
  exact hne (congrArg Obj.cls (Option.some.inj ((N.get h1).symm.trans (N.get h2))))
end
abbrev methO (w : World) (k1 k2 k3 k4 k5 k6 k7 k8 k9 : Tok) (v1 v2 v3 v4 v5 v6 v7 v8 v9 : Value) : Obj := dictOf [{ hash := PyData.keyHash w.params (Str.ofString "number"), key := .str (Str.ofString "number") k1, val := v1 }, { hash := PyData.keyHash w.params (Str.ofString "table"), key := .str (Str.ofString "table") k2, val := v2 }, { hash := PyData.keyHash w.params (Str.ofString "sig"), key := .str (Str.ofString "sig") k3, val := v3 }, { hash := PyData.keyHash w.params (Str.ofString "names"), key := .str (Str.ofString "names") k4, val := v4 }, { hash := PyData.keyHash w.params (Str.ofString "has_rest"), key := .str (Str.ofString "has_rest") k5, val := v5 }, { hash := PyData.keyHash w.params (Str.ofString "code"), key := .str (Str.ofString "code") k6, val := v6 }, { hash := PyData.keyHash w.params (Str.ofString "tree"), key := .str (Str.ofString "tree") k7, val := v7 }, { hash := PyData.keyHash w.params (Str.ofString "world_from"), key := .str (Str.ofString "world_from") k8, val := v8 }, { hash := PyData.keyHash w.params (Str.ofString "world_to"), key := .str (Str.ofString "world_to") k9, val := v9 }] 9
/- the method: its object, the table of its attributes, its names -/
def MethIn (w : World) (l : Led) (va : Addr) (n : Nat) (b : Bool) : Prop := ∃ (md nm : Addr) (zs : List Value) (k1 k2 k3 k4 k5 k6 k7 k8 k9 : Tok) (v1 v2 v3 v6 v7 v8 v9 : Value), (va, instObj 245 md) ∈ l ∧ (md, methO w k1 k2 k3 k4 k5 k6 k7 k8 k9 v1 v2 v3 (.ref nm) (.bool b) v6 v7 v8 v9) ∈ l ∧ (nm, TupO zs) ∈ l ∧ zs.length = n
theorem MethIn.mono {w : World} {l l' : Led} {va : Addr} {n : Nat} {b : Bool} (h : MethIn w l va n b) (s : ∀ q ∈ l, q ∈ l') : MethIn w l' va n b := by
  obtain ⟨md, nm, zs, k1, k2, k3, k4, k5, k6, k7, k8, k9, v1, v2, v3, v6, v7, v8, v9, a, c, d, e⟩ := h
  exact ⟨md, nm, zs, k1, k2, k3, k4, k5, k6, k7, k8, k9, v1, v2, v3, v6, v7, v8, v9, s _ a, s _ c, s _ d, e⟩
local macro_rules | `(tactic| k_mem) => `(tactic| (refine memL ?_; (repeat (first | exact memH | ktr_member | exact memA (by ktr_member) | refine memT ?_ | refine memR ?_)); done))
local macro_rules | `(tactic| walk_at "eval ListComp") => `(tactic| (k_here; refine Stop.go ?_))
local macro_rules | `(tactic| walk_at "exec Assign cons ListComp") => `(tactic| (k_here; refine Stop.go ?_))
local macro_rules | `(tactic| walk_at "call ref") => `(tactic| (k_here; (with_reducible first | show wpAny _ _ (call (Value.ref 263) _) _ _ _ | show wpAny _ _ (call (Value.ref 268) _) _ _ _ | show wpAny _ _ (call (Value.ref 275) _) _ _ _ | show wpAny _ _ (call (Value.ref 161) _) _ _ _); refine Stop.go ?_))
local macro_rules | `(tactic| walk_at "CompSrc") => `(tactic| (k_here; refine Stop.go ?_))
local macro_rules | `(tactic| k_room) => `(tactic| ktr_room)
local macro_rules | `(tactic| walk_at "subscriptTail Name Slice ref ref") => `(tactic| (k_here; refine Stop.go ?_))
theorem ne_of_gtN {a b : Nat} (h : a < b) : b ≠ a := Nat.ne_of_gt h
theorem news_4 {h₀ h : Heap} {L : Addr} {c1 c2 c3 c4 c5 c6 d : Addr × Obj} {l : Led} (N : News h₀ L h (c1 :: c2 :: c3 :: c4 :: c5 :: c6 :: d :: l)) : News h₀ L h (d :: c1 :: c2 :: c3 :: l) := fun q hq => N q (by
  simp only [List.mem_cons] at hq ⊢
  rcases hq with hq | hq | hq | hq | hq <;> simp only [hq, true_or, or_true])
theorem blk7 {w : World} {p : Program} {loose : List Str} {mean : ExcName → Option Value} {mg mb : Str → Option Value} {dp un : Nat} {gd : Option (List Code)} {L a : Addr} {ccd : Value} {outer : List Env} {A₀ : Around} {base h₀ : Heap} {m : Str → Option Value} {s : Shared} {E : Value → Shared → Prop} {src : Addr} {oc : Obj} {x y : Int} {t u : Tok} {ep : Nat} {rest : Led} {many : Int} {tm tt : Tok} {tb : Str} {b : Bool} (hmm : m (Str.ofString "many") = some (.int many tm)) (hhr : m (Str.ofString "has_rest") = some (.bool b)) (htt : m (Str.ofString "table") = some (.str tb tt)) (hm0 : 0 ≤ many) (hm4 : many ≤ 4) (B : Below A₀ base outer h₀) (F : Fr h₀ L s.heap m) (X : (hd.heap_39 w.params).In h₀) (N : News h₀ L s.heap ((src, srcO x y t u ep) :: rest)) (T : Top p loose mean mg mb h₀) (hd' : dp + 40 < recursionLimit) (hu : un + 400 < cLine) (hoff : Off src rest) (hx : 0 ≤ x) (hy : 0 ≤ y) (hy' : y ≤ 2147483629) (hoc : oc.data = .cell (some (.ref src))) (hcell : (L + 1, oc) ∈ rest) :
    ∀ st7, lawBody[7]? = some st7 → wpAny (model PySem.Challenge.rw_pq0694_01.row.prog w) (lawA dp un gd L a ccd outer) (exec st7 (lawEnv L a ccd))
      (Nx fun s' => ∃ h' tk' x' y' t' u' rest' va, s' = { s with heap := h', toks := tk' } ∧ 0 ≤ x' ∧ 0 ≤ y' ∧ y' ≤ 2147483629 ∧ (∀ q ∈ rest, q ∈ rest') ∧ Off src rest' ∧ News h₀ L h' ((src, srcO x' y' t' u' ep) :: rest') ∧ Fr h₀ L h' (mSet "method" (.ref va) m) ∧ MethIn w rest' va many.toNat b) E s := by
  revert X
  k_fill
  intro X st7 e7
  cases e7
  replace F := fr_self ((if_neg (by decide)).trans ((if_neg (by decide)).trans hmm)) (fr_self ((if_neg (by decide)).trans hhr) (fr_self htt F))
  k_steps
  refine Stop.out ?_
  k_dflt (refine slice_four hm0 hm4 (by k_asm) (by k_asm) (by k_mem) ?_ (by with_unfolding_all rfl) (by kmk_pure))
  intro D2 zs h2 F2 N2 hzs
  have hne2 := news_ne N2 (.head _) (memT (memT (memT (memT memH)))) (show (Value.type "tuple") ≠ Value.type "list" by decide)
  k_steps
  refine ⟨rfl, _, _, x, y, t, u, _ :: _ :: _ :: rest, _, rfl, hx, hy, hy', fun q hq => memT (memT (memT hq)), List.forall_mem_cons.mpr ⟨?_, List.forall_mem_cons.mpr ⟨?_, List.forall_mem_cons.mpr ⟨hne2, hoff⟩⟩⟩, news_4 (by assumption), fr_cong (by assumption) (by funext z; dsimp only [mSet]; (repeat' split) <;> first | rfl | (rename_i e; rw [e]; first | exact hmm.symm | exact hhr.symm | exact htt.symm)), _, D2, zs, _, _, _, _, _, _, _, _, _, _, _, _, _, _, _, _, memH, memT memH, memT (memT memH), hzs⟩
  · refine neN ?_; dsimp only; omega
  · refine neN ?_; dsimp only; omega
end Mine

namespace Mine
open PySem.Calls PySem.Spec

inductive ToldIn (l : Led) (c : Value) (zs : List Value) (n : Nat) : Bool → List Value → Prop
  | plain : ToldIn l c zs n false (c :: zs)
  | rest {tp tr : Addr} {tt : Tok} : (tp, TupO [.str (Str.ofString "tuple") tt, .ref tr]) ∈ l → (tr, TupO (zs.drop n)) ∈ l → ToldIn l c zs n true (c :: (zs.take n ++ [.ref tp]))
theorem ToldIn.mono {l l' : Led} {c : Value} {zs told : List Value} {n : Nat} {b : Bool} (h : ToldIn l c zs n b told) (s : ∀ q ∈ l, q ∈ l') : ToldIn l' c zs n b told := by
  cases h with
  | plain => exact .plain
  | rest h1 h2 => exact .rest (s _ h1) (s _ h2)
theorem news_mv {h₀ h : Heap} {L : Addr} {d : Addr × Obj} {pre l : Led} (N : News h₀ L h (pre ++ d :: l)) : News h₀ L h (d :: (pre ++ l)) := fun q hq => N q (by
  rcases List.mem_cons.mp hq with rfl | hq
  · exact memR (.head _)
  · exact (List.mem_append.mp hq).elim memA fun h => memR (.tail _ h))
section
variable {prog : Program} {w : World} {A : Around} {E : Value → Shared → Prop} {s : Shared} {h₀ : Heap} {L : Addr} {news : Led}
theorem len_tupN {t : Addr} {vs : List Value} {n : Nat} {Q : Value → Shared → Prop} (N : News h₀ L s.heap news) (hm : (t, ({ cls := .type "tuple", data := .seq (List.toArray vs) n } : Obj)) ∈ news) (hf : vs.length ≤ 100) (h : Q (.int (vs.length : Nat) (s.toks + 1)) { s with toks := s.toks + 1 + 1 }) :
    wpAny (model prog w) A (call (.builtin "len") [.ref t]) Q E s :=
  len_tuple (News.isTup N hm) (by rw [List.size_toArray]; omega) (by rw [List.size_toArray]; exact h)
theorem len_lstN {t : Addr} {vs : List Value} {n : Nat} {Q : Value → Shared → Prop} (N : News h₀ L s.heap news) (hm : (t, W.listOf (List.toArray vs) n) ∈ news) (hf : vs.length ≤ 100) (h : Q (.int (vs.length : Nat) (s.toks + 1)) { s with toks := s.toks + 1 + 1 }) :
    wpAny (model prog w) A (call (.builtin "len") [.ref t]) Q E s :=
  len_list (News.isList N hm) (by rw [List.size_toArray]; omega) (by rw [List.size_toArray]; exact h)
end
local macro_rules | `(tactic| k_mem) => `(tactic| (refine memL ?_; (repeat (first | exact memH | ktr_member | exact memA (by ktr_member) | refine memT ?_ | refine memR ?_)); done))
local macro_rules | `(tactic| walk_at "eval ListComp") => `(tactic| (k_here; refine Stop.go ?_))
local macro_rules | `(tactic| walk_at "exec Assign cons ListComp") => `(tactic| (k_here; refine Stop.go ?_))
local macro_rules | `(tactic| walk_at "call ref") => `(tactic| (k_here; (with_reducible first | show wpAny _ _ (call (Value.ref 263) _) _ _ _ | show wpAny _ _ (call (Value.ref 268) _) _ _ _ | show wpAny _ _ (call (Value.ref 275) _) _ _ _ | show wpAny _ _ (call (Value.ref 161) _) _ _ _); refine Stop.go ?_))
local macro_rules | `(tactic| walk_at "CompSrc") => `(tactic| (k_here; refine Stop.go ?_))
local macro_rules | `(tactic| k_room) => `(tactic| ktr_room)
local macro_rules | `(tactic| walk_at "subscriptTail Name Slice ref ref") => `(tactic| (k_here; (with_reducible show wpAny _ _ (subscriptTail _ (PySem.Expr.Slice _ _ none _) (Value.ref _) (Value.ref _)) _ _ _); k_dflt (refine' kmk_slice_lit ?zF ?zN ?zl ?zp ?zq ?ze ?_ ?zs ?zt ?zz; (case zF => k_asm); (case zN => k_asm); (case zl => kmk_list); (case zp => kmk_part); (case zq => kmk_part); (case ze => first | exact sl_last | exact sl_upto (by omega) | exact sl_from (by omega)); (case zs => with_unfolding_all rfl); (case zt => kmk_pure); (case zz => (simp only [List.size_toArray, List.length_take, List.length_cons, List.length_append, List.length_nil, sizeLine_eq]; omega))); intro D' h' F' N' l1; (try k_lt l1); (try k_sweep)))
local macro_rules | `(tactic| walk_at "call type:list") => `(tactic| (k_here; (with_reducible show wpAny _ _ (call (Value.type _) [Value.ref _]) _ _ _); k_dflt (refine' list_copyK ?zF ?zN ?zl ?_ ?zz; (case zF => k_asm); (case zN => k_asm); (case zl => exact News.isList (by k_asm) (by k_mem)); (case zz => (simp only [List.size_toArray, List.length_take, List.length_drop, List.length_cons, List.length_append, List.length_nil, sizeLine_eq]; omega))); intro D' c' h' F' N' l1; (try k_lt l1); (try k_sweep)))
local macro_rules | `(tactic| walk_at "call type:tuple") => `(tactic| (k_here; (with_reducible show wpAny _ _ (call (Value.type _) [Value.ref _]) _ _ _); k_dflt (refine' kde_tupleOf ?k1 ?k2 ?k3 ?k4 ?k5 ?_; (case k1 => k_asm); (case k2 => k_asm); (case k3 => exact News.isList (by k_asm) (by k_mem)); (case k4 => (simp only [List.size_toArray, List.length_take, List.length_drop]; omega)); (case k5 => exact rfl)); intro D' h' F' N' l1; (try k_lt l1); (try k_sweep)))
local macro_rules | `(tactic| walk_at "binaryOp Add ref ref") => `(tactic| (k_here; (with_reducible show wpAny _ _ (binaryOp _ (Value.ref _) (Value.ref _)) _ _ _); k_dflt (refine' kmk_add_lit ?zF ?zN ?za ?zb ?ze ?_ ?zz; (case zF => k_asm); (case zN => k_asm); (case za => kmk_list); (case zb => kmk_list); (case ze => exact add_e); (case zz => (simp only [List.toList_toArray, List.length_take, List.length_drop, List.length_cons, List.length_append, List.length_nil, sizeLine_eq]; omega))); intro D' h' F' N' l1; (try k_lt l1); (try k_sweep)))
local macro_rules | `(tactic| walk_at "call builtin:len") => `(tactic| (k_here; (with_reducible show wpAny _ _ (call (Value.builtin "len") [Value.ref _]) _ _ _); k_dflt (first | (refine' len_tupN ?zN ?zm ?zf ?_; (case zN => k_asm); (case zm => k_mem); (case zf => ((try simp only [List.length_take, List.length_drop, List.length_cons, List.length_append, List.length_nil]); omega))) | (refine' len_lstN ?zN ?zm ?zf ?_; (case zN => k_asm); (case zm => k_mem); (case zf => ((try simp only [List.length_take, List.length_drop, List.length_cons, List.length_append, List.length_nil]); omega))))))
theorem blk8 {w : World} {p : Program} {loose : List Str} {mean : ExcName → Option Value} {mg mb : Str → Option Value} {dp un : Nat} {gd : Option (List Code)} {L a : Addr} {ccd : Value} {outer : List Env} {A₀ : Around} {base h₀ : Heap} {m : Str → Option Value} {s : Shared} {E : Value → Shared → Prop} {src : Addr} {oc : Obj} {x y : Int} {t u : Tok} {ep : Nat} {rest : Led} {c : Value} {va ma : Addr} {zs : List Value} {many fx : Int} {b : Bool} (hcc : m (Str.ofString "callee") = some c) (hvv : m (Str.ofString "values") = some (.ref va)) (hmt : m (Str.ofString "method") = some (.ref ma)) (hva : (va, LCg.lst zs) ∈ rest) (hzl : zs.length ≤ 7) (hM : MethIn w rest ma many.toNat b) (hm0 : 0 ≤ many) (hm4 : many ≤ 4) (hb : b = true → 0 < many) (hfx : fx = many - (if b = true then 1 else 0)) (B : Below A₀ base outer h₀) (F : Fr h₀ L s.heap m) (X : (hd.heap_39 w.params).In h₀) (N : News h₀ L s.heap ((src, srcO x y t u ep) :: rest)) (T : Top p loose mean mg mb h₀) (hd' : dp + 40 < recursionLimit) (hu : un + 400 < cLine) (hoff : Off src rest) (hx : 0 ≤ x) (hy : 0 ≤ y) (hy' : y ≤ 2147483629) (hoc : oc.data = .cell (some (.ref src))) (hcell : (L + 1, oc) ∈ rest) :
    ∀ st8, lawBody[8]? = some st8 → wpAny (model PySem.Challenge.rw_pq0694_01.row.prog w) (lawA dp un gd L a ccd outer) (exec st8 (lawEnv L a ccd))
      (Nx fun s' => ∃ h' tk' x' y' t' u' rest' ta told tn, s' = { s with heap := h', toks := tk' } ∧ 0 ≤ x' ∧ 0 ≤ y' ∧ y' ≤ 2147483629 ∧ (∀ q ∈ rest, q ∈ rest') ∧ Off src rest' ∧ News h₀ L h' ((src, srcO x' y' t' u' ep) :: rest') ∧ Fr h₀ L h' (mSet "told" (.ref ta) m) ∧ (ta, listOf told.toArray tn) ∈ rest' ∧ ToldIn rest' c zs fx.toNat b told) E s := by
  revert X
  k_fill
  intro X st8 e8
  cases e8
  obtain ⟨md, nm, nms, k1, k2, k3, k4, k5, k6, k7, k8, k9, v1, v2, v3, v6, v7, v8, v9, hM1, hM2, hM3, hM4⟩ := hM
  replace F := fr_self ((if_neg (by decide)).trans ((if_neg (by decide)).trans hcc)) (fr_self ((if_neg (by decide)).trans hvv) (fr_self hmt F))
  cases b
  · k_steps
    have NN := news_mv (pre := [_, _, _]) (by assumption : News h₀ L _ (_ :: _ :: _ :: (src, srcO x y t u ep) :: rest))
    refine ⟨rfl, _, _, x, y, t, u, _, _, c :: zs, _, rfl, hx, hy, hy', ?_, ?_, NN, fr_cong (by assumption) (by funext z; dsimp only [mSet]; (repeat' split) <;> first | rfl | (rename_i e; rw [e]; first | exact hcc.symm | exact hvv.symm | exact hmt.symm)), memA memH, .plain⟩
    · exact fun q hq => memR hq
    · exact off_app (by (repeat (refine List.forall_mem_cons.mpr ⟨by refine neN ?_; dsimp only; omega, ?_⟩)); exact List.forall_mem_nil _) hoff
  · have hb1 := hb rfl
    have hn : ((nms.length : Int) - 1) = fx := by rw [hfx, if_pos rfl]; omega
    k_steps
    have NN := news_mv (pre := [_, _, _, _, _, _, _, _, _]) (by assumption : News h₀ L _ (_ :: _ :: _ :: _ :: _ :: _ :: _ :: _ :: _ :: (src, srcO x y t u ep) :: rest))
    rw [hn] at NN
    refine ⟨rfl, _, _, x, y, t, u, _, _, c :: (zs.take fx.toNat ++ [.ref _]), _, rfl, hx, hy, hy', ?_, ?_, NN, fr_cong (by assumption) (by funext z; dsimp only [mSet]; (repeat' split) <;> first | rfl | (rename_i e; rw [e]; first | exact hcc.symm | exact hvv.symm | exact hmt.symm)), memA memH, .rest (memA (memT (memT memH))) (memA (memT (memT (memT memH))))⟩
    · exact fun q hq => memR hq
    · exact off_app (by (repeat (refine List.forall_mem_cons.mpr ⟨by refine neN ?_; dsimp only; omega, ?_⟩)); exact List.forall_mem_nil _) hoff
end Mine

namespace Mine
open PySem.Calls PySem.Spec
local macro_rules | `(tactic| k_mem) => `(tactic| (refine memL ?_; (repeat (first | exact memH | ktr_member | exact memA (by ktr_member) | refine memT ?_ | refine memR ?_)); done))
local macro_rules | `(tactic| walk_at "eval ListComp") => `(tactic| (k_here; refine Stop.go ?_))
local macro_rules | `(tactic| walk_at "exec Assign cons ListComp") => `(tactic| (k_here; refine Stop.go ?_))
local macro_rules | `(tactic| walk_at "call ref") => `(tactic| (k_here; (with_reducible first | show wpAny _ _ (call (Value.ref 263) _) _ _ _ | show wpAny _ _ (call (Value.ref 268) _) _ _ _ | show wpAny _ _ (call (Value.ref 275) _) _ _ _ | show wpAny _ _ (call (Value.ref 161) _) _ _ _); refine Stop.go ?_))
local macro_rules | `(tactic| walk_at "CompSrc") => `(tactic| (k_here; refine Stop.go ?_))
local macro_rules | `(tactic| k_room) => `(tactic| ktr_room)
local macro_rules | `(tactic| walk_at "subscriptTail Name Slice ref ref") => `(tactic| (k_here; (with_reducible show wpAny _ _ (subscriptTail _ (PySem.Expr.Slice _ _ none _) (Value.ref _) (Value.ref _)) _ _ _); k_dflt (refine' kmk_slice_lit ?zF ?zN ?zl ?zp ?zq ?ze ?_ ?zs ?zt ?zz; (case zF => k_asm); (case zN => k_asm); (case zl => kmk_list); (case zp => kmk_part); (case zq => kmk_part); (case ze => first | exact sl_last | exact sl_upto (by omega) | exact sl_from (by omega)); (case zs => with_unfolding_all rfl); (case zt => kmk_pure); (case zz => (simp only [List.size_toArray, List.length_take, List.length_cons, List.length_append, List.length_nil, sizeLine_eq]; omega))); intro D' h' F' N' l1; (try k_lt l1); (try k_sweep)))
local macro_rules | `(tactic| walk_at "call type:list") => `(tactic| (k_here; (with_reducible show wpAny _ _ (call (Value.type _) [Value.ref _]) _ _ _); k_dflt (refine' list_copyK ?zF ?zN ?zl ?_ ?zz; (case zF => k_asm); (case zN => k_asm); (case zl => exact News.isList (by k_asm) (by k_mem)); (case zz => (simp only [List.size_toArray, List.length_take, List.length_drop, List.length_cons, List.length_append, List.length_nil, sizeLine_eq]; omega))); intro D' c' h' F' N' l1; (try k_lt l1); (try k_sweep)))
local macro_rules | `(tactic| walk_at "call type:tuple") => `(tactic| (k_here; (with_reducible show wpAny _ _ (call (Value.type _) [Value.ref _]) _ _ _); k_dflt (refine' kde_tupleOf ?k1 ?k2 ?k3 ?k4 ?k5 ?_; (case k1 => k_asm); (case k2 => k_asm); (case k3 => exact News.isList (by k_asm) (by k_mem)); (case k4 => (simp only [List.size_toArray, List.length_take, List.length_drop]; omega)); (case k5 => exact rfl)); intro D' h' F' N' l1; (try k_lt l1); (try k_sweep)))
local macro_rules | `(tactic| walk_at "binaryOp Add ref ref") => `(tactic| (k_here; (with_reducible show wpAny _ _ (binaryOp _ (Value.ref _) (Value.ref _)) _ _ _); k_dflt (refine' kmk_add_lit ?zF ?zN ?za ?zb ?ze ?_ ?zz; (case zF => k_asm); (case zN => k_asm); (case za => kmk_list); (case zb => kmk_list); (case ze => exact add_e); (case zz => (simp only [List.toList_toArray, List.length_take, List.length_drop, List.length_cons, List.length_append, List.length_nil, sizeLine_eq]; omega))); intro D' h' F' N' l1; (try k_lt l1); (try k_sweep)))
local macro_rules | `(tactic| walk_at "call builtin:len") => `(tactic| (k_here; (with_reducible show wpAny _ _ (call (Value.builtin "len") [Value.ref _]) _ _ _); k_dflt (first | (refine' len_tupN ?zN ?zm ?zf ?_; (case zN => k_asm); (case zm => k_mem); (case zf => ((try simp only [List.length_take, List.length_drop, List.length_cons, List.length_append, List.length_nil]); omega))) | (refine' len_lstN ?zN ?zm ?zf ?_; (case zN => k_asm); (case zm => k_mem); (case zf => ((try simp only [List.length_take, List.length_drop, List.length_cons, List.length_append, List.length_nil]); omega))))))
local macro_rules | `(tactic| walk_at "compareOp NotEq ref ref") => `(tactic| (k_here; refine Stop.go ?_))
theorem news_drop {h₀ h : Heap} {L : Addr} {d : Addr × Obj} {pre l : Led} (N : News h₀ L h (pre ++ d :: l)) : News h₀ L h (d :: l) := fun q hq => N q (memR hq)
theorem blk9 {w : World} {p : Program} {loose : List Str} {mean : ExcName → Option Value} {mg mb : Str → Option Value} {dp un : Nat} {gd : Option (List Code)} {L a : Addr} {ccd : Value} {outer : List Env} {A₀ : Around} {base h₀ : Heap} {m : Str → Option Value} {s : Shared} {E : Value → Shared → Prop} {src : Addr} {oc : Obj} {x y : Int} {t u : Tok} {ep : Nat} {rest : Led} {c : Value} {va ta : Addr} {zs told : List Value} {tn : Nat} {many fx : Int} {tm tf : Tok} {b : Bool} (hcc : m (Str.ofString "callee") = some c) (hvv : m (Str.ofString "values") = some (.ref va)) (htl : m (Str.ofString "told") = some (.ref ta)) (hmm : m (Str.ofString "many") = some (.int many tm)) (hff : m (Str.ofString "fixed") = some (.int fx tf)) (hva : (va, LCg.lst zs) ∈ rest) (hta : (ta, W.listOf told.toArray tn) ∈ rest) (hT : ToldIn rest c zs fx.toNat b told) (hzl : zs.length ≤ 7) (hm0 : 0 ≤ many) (hm4 : many ≤ 4) (hb : b = true → 0 < many) (hfx : fx = many - (if b = true then 1 else 0)) (hfz : fx.toNat ≤ zs.length) (hbz : b = false → zs.length = fx.toNat) (B : Below A₀ base outer h₀) (F : Fr h₀ L s.heap m) (X : (hd.heap_39 w.params).In h₀) (N : News h₀ L s.heap ((src, srcO x y t u ep) :: rest)) (T : Top p loose mean mg mb h₀) (hd' : dp + 40 < recursionLimit) (hu : un + 400 < cLine) (hoff : Off src rest) (hx : 0 ≤ x) (hy : 0 ≤ y) (hy' : y ≤ 2147483629) (hoc : oc.data = .cell (some (.ref src))) (hcell : (L + 1, oc) ∈ rest) :
    ∀ st9, lawBody[9]? = some st9 → wpAny (model PySem.Challenge.rw_pq0694_01.row.prog w) (lawA dp un gd L a ccd outer) (exec st9 (lawEnv L a ccd))
      (Nx fun s' => ∃ h' tk' x' y' t' u' rest', s' = { s with heap := h', toks := tk' } ∧ 0 ≤ x' ∧ 0 ≤ y' ∧ y' ≤ 2147483629 ∧ (∀ q ∈ rest, q ∈ rest') ∧ Off src rest' ∧ News h₀ L h' ((src, srcO x' y' t' u' ep) :: rest') ∧ Fr h₀ L h' (m) ∧ True) E s := by
  revert X
  k_fill
  intro X st9 e9
  cases e9
  replace F := fr_self ((if_neg (by decide)).trans ((if_neg (by decide)).trans ((if_neg (by decide)).trans ((if_neg (by decide)).trans hcc)))) (fr_self ((if_neg (by decide)).trans ((if_neg (by decide)).trans ((if_neg (by decide)).trans hvv))) (fr_self ((if_neg (by decide)).trans ((if_neg (by decide)).trans htl)) (fr_self ((if_neg (by decide)).trans hmm) (fr_self hff F))))
  have hlen : told.length = many.toNat + 1 := by
    cases hT with
    | plain => have := hbz rfl; simp only [List.length_cons]; simp at hfx; omega
    | rest h1 h2 => have := hb rfl; simp only [List.length_cons, List.length_append, List.length_take, List.length_nil]; simp at hfx; omega
  have hfx0 : 0 ≤ fx := by
    rw [hfx]
    split
    · have := hb (by assumption); omega
    · omega
  have htk : told.take (fx + 1).toNat = [c] ++ zs.take fx.toNat := by
    have e1 : (fx + 1).toNat = fx.toNat + 1 := by omega
    rw [e1]
    cases hT with
    | plain => rfl
    | rest h1 h2 => rw [List.take_succ_cons, List.take_append_of_le_length (by rw [List.length_take]; omega), List.take_take, Nat.min_self]; rfl
  k_steps
  · exfalso; omega
  · refine Stop.out ?_
    k_dflt (refine ne_lists 0 (News.isList (by k_asm) (by k_mem)) (News.isList (by k_asm) (by k_mem)) (EqvAll.of_eq htk) (by first | ktr_units | ke_room) ?_)
    k_steps
    have NN := news_drop (pre := [_, _, _, _]) (by assumption : News h₀ L _ (_ :: _ :: _ :: _ :: (src, srcO x y t u ep) :: rest))
    exact ⟨rfl, _, _, x, y, t, u, rest, rfl, hx, hy, hy', fun q hq => hq, hoff, NN, fr_cong (by assumption) (by funext z; dsimp only [mSet]; (repeat' split) <;> first | rfl | (rename_i e; rw [e]; first | exact hcc.symm | exact hvv.symm | exact htl.symm | exact hmm.symm | exact hff.symm)), trivial⟩
end Mine

namespace Mine
open PySem.Calls PySem.Spec
section
variable {prog : Program} {w : World} {A : Around} {E : Value → Shared → Prop} {s : Shared} {h₀ : Heap} {L : Addr} {news : Led}
theorem item_last {value slice : Expr} {l : Addr} {c v : Value} {ys : List Value} {n : Nat} {u : Tok} {Q : Value → Shared → Prop} (N : News h₀ L s.heap news) (hm : (l, W.listOf (List.toArray (c :: (ys ++ [v]))) n) ∈ news) (h : Q v s)
    (hs : subscripted slice false (.ref l) (.int (-1) u) = operate [.ref l, .int (-1) u] (getItem (.ref l) (.int (-1) u))) (hg : ∀ r, letTemporaryGo value (.ref l) r = pure ()) :
    wpAny (model prog w) A (subscriptTail value slice (.ref l) (.int (-1) u)) Q E s :=
  subscriptTail_builtin (News.isList N hm).typeIs slot_list_getitem.lookup (wpAny_getItem_list_neg (News.isList N hm) (by decide) (by rw [List.size_toArray, List.length_cons, List.length_append]; simp; omega) (by decide) (by
    have e : ((-1 : Int) + ((c :: (ys ++ [v])).toArray.size : Int)).toNat = ys.length + 1 := by rw [List.size_toArray, List.length_cons, List.length_append]; simp; omega
    rw [e]; simp) h) hs hg
end
local macro_rules | `(tactic| k_mem) => `(tactic| (refine memL ?_; (repeat (first | exact memH | ktr_member | exact memA (by ktr_member) | refine memT ?_ | refine memR ?_)); done))
local macro_rules | `(tactic| walk_at "eval ListComp") => `(tactic| (k_here; refine Stop.go ?_))
local macro_rules | `(tactic| walk_at "exec Assign cons ListComp") => `(tactic| (k_here; refine Stop.go ?_))
local macro_rules | `(tactic| walk_at "call ref") => `(tactic| (k_here; (with_reducible first | show wpAny _ _ (call (Value.ref 263) _) _ _ _ | show wpAny _ _ (call (Value.ref 268) _) _ _ _ | show wpAny _ _ (call (Value.ref 275) _) _ _ _ | show wpAny _ _ (call (Value.ref 161) _) _ _ _); refine Stop.go ?_))
local macro_rules | `(tactic| walk_at "CompSrc") => `(tactic| (k_here; refine Stop.go ?_))
local macro_rules | `(tactic| k_room) => `(tactic| ktr_room)
local macro_rules | `(tactic| walk_at "subscriptTail Name Slice ref ref") => `(tactic| (k_here; (with_reducible show wpAny _ _ (subscriptTail _ (PySem.Expr.Slice _ _ none _) (Value.ref _) (Value.ref _)) _ _ _); k_dflt (refine' kmk_slice_lit ?zF ?zN ?zl ?zp ?zq ?ze ?_ ?zs ?zt ?zz; (case zF => k_asm); (case zN => k_asm); (case zl => kmk_list); (case zp => kmk_part); (case zq => kmk_part); (case ze => first | exact sl_last | exact sl_upto (by omega) | exact sl_from (by omega)); (case zs => with_unfolding_all rfl); (case zt => kmk_pure); (case zz => (simp only [List.size_toArray, List.length_take, List.length_cons, List.length_append, List.length_nil, sizeLine_eq]; omega))); intro D' h' F' N' l1; (try k_lt l1); (try k_sweep)))
local macro_rules | `(tactic| walk_at "call type:list") => `(tactic| (k_here; (with_reducible show wpAny _ _ (call (Value.type _) [Value.ref _]) _ _ _); k_dflt (refine' list_copyK ?zF ?zN ?zl ?_ ?zz; (case zF => k_asm); (case zN => k_asm); (case zl => exact News.isList (by k_asm) (by k_mem)); (case zz => (simp only [List.size_toArray, List.length_take, List.length_drop, List.length_cons, List.length_append, List.length_nil, sizeLine_eq]; omega))); intro D' c' h' F' N' l1; (try k_lt l1); (try k_sweep)))
local macro_rules | `(tactic| walk_at "call type:tuple") => `(tactic| (k_here; (with_reducible show wpAny _ _ (call (Value.type _) [Value.ref _]) _ _ _); k_dflt (refine' kde_tupleOf ?k1 ?k2 ?k3 ?k4 ?k5 ?_; (case k1 => k_asm); (case k2 => k_asm); (case k3 => exact News.isList (by k_asm) (by k_mem)); (case k4 => (simp only [List.size_toArray, List.length_take, List.length_drop]; omega)); (case k5 => exact rfl)); intro D' h' F' N' l1; (try k_lt l1); (try k_sweep)))
local macro_rules | `(tactic| walk_at "binaryOp Add ref ref") => `(tactic| (k_here; (with_reducible show wpAny _ _ (binaryOp _ (Value.ref _) (Value.ref _)) _ _ _); k_dflt (refine' kmk_add_lit ?zF ?zN ?za ?zb ?ze ?_ ?zz; (case zF => k_asm); (case zN => k_asm); (case za => kmk_list); (case zb => kmk_list); (case ze => exact add_e); (case zz => (simp only [List.toList_toArray, List.length_dropLast, List.length_take, List.length_drop, List.length_cons, List.length_append, List.length_nil, sizeLine_eq]; omega))); intro D' h' F' N' l1; (try k_lt l1); (try k_sweep)))
local macro_rules | `(tactic| walk_at "call builtin:len") => `(tactic| (k_here; (with_reducible show wpAny _ _ (call (Value.builtin "len") [Value.ref _]) _ _ _); k_dflt (first | (refine' len_tupN ?zN ?zm ?zf ?_; (case zN => k_asm); (case zm => k_mem); (case zf => ((try simp only [List.length_take, List.length_drop, List.length_cons, List.length_append, List.length_nil]); omega))) | (refine' len_lstN ?zN ?zm ?zf ?_; (case zN => k_asm); (case zm => k_mem); (case zf => ((try simp only [List.length_take, List.length_drop, List.length_cons, List.length_append, List.length_nil]); omega))))))
local macro_rules | `(tactic| walk_at "call type:list") => `(tactic| (k_here; (with_reducible show wpAny _ _ (call (Value.type _) [Value.ref _]) _ _ _); k_dflt (refine' list_copyKT ?zF ?zN ?zl ?_ ?zz; (case zF => k_asm); (case zN => k_asm); (case zl => exact News.isTup (by k_asm) (by k_mem)); (case zz => (simp only [List.size_toArray, List.length_take, List.length_drop, List.length_cons, List.length_append, List.length_nil, sizeLine_eq]; omega))); intro D' c' h' F' N' l1; (try k_lt l1); (try k_sweep)))
local macro_rules | `(tactic| walk_at "subscriptTail Name UnaryOp ref int") => `(tactic| (k_here; k_dflt (refine item_last (by k_asm) (by k_mem) ?_ (by with_unfolding_all rfl) (by kmk_pure))))
local macro_rules | `(tactic| walk_at "compareOp NotEq ref ref") => `(tactic| (k_here; refine Stop.go ?_))
theorem blk10 {w : World} {p : Program} {loose : List Str} {mean : ExcName → Option Value} {mg mb : Str → Option Value} {dp un : Nat} {gd : Option (List Code)} {L a : Addr} {ccd : Value} {outer : List Env} {A₀ : Around} {base h₀ : Heap} {m : Str → Option Value} {s : Shared} {E : Value → Shared → Prop} {src : Addr} {oc : Obj} {x y : Int} {t u : Tok} {ep : Nat} {rest : Led} {c : Value} {va ta : Addr} {zs told : List Value} {tn : Nat} {fx : Int} {b : Bool} (hcc : m (Str.ofString "callee") = some c) (hvv : m (Str.ofString "values") = some (.ref va)) (htl : m (Str.ofString "told") = some (.ref ta)) (hhr : m (Str.ofString "has_rest") = some (.bool b)) (hva : (va, LCg.lst zs) ∈ rest) (hta : (ta, W.listOf told.toArray tn) ∈ rest) (hT : ToldIn rest c zs fx.toNat b told) (hzl : zs.length ≤ 7) (B : Below A₀ base outer h₀) (F : Fr h₀ L s.heap m) (X : (hd.heap_39 w.params).In h₀) (N : News h₀ L s.heap ((src, srcO x y t u ep) :: rest)) (T : Top p loose mean mg mb h₀) (hd' : dp + 40 < recursionLimit) (hu : un + 400 < cLine) (hoff : Off src rest) (hx : 0 ≤ x) (hy : 0 ≤ y) (hy' : y ≤ 2147483629) (hoc : oc.data = .cell (some (.ref src))) (hcell : (L + 1, oc) ∈ rest) :
    ∀ st10, lawBody[10]? = some st10 → wpAny (model PySem.Challenge.rw_pq0694_01.row.prog w) (lawA dp un gd L a ccd outer) (exec st10 (lawEnv L a ccd))
      (Nx fun s' => ∃ h' tk' x' y' t' u' rest', s' = { s with heap := h', toks := tk' } ∧ 0 ≤ x' ∧ 0 ≤ y' ∧ y' ≤ 2147483629 ∧ (∀ q ∈ rest, q ∈ rest') ∧ Off src rest' ∧ News h₀ L h' ((src, srcO x' y' t' u' ep) :: rest') ∧ Fr h₀ L h' (m) ∧ True) E s := by
  revert X
  k_fill
  intro X st10 e10
  cases e10
  replace F := fr_self ((if_neg (by decide)).trans ((if_neg (by decide)).trans ((if_neg (by decide)).trans hcc))) (fr_self ((if_neg (by decide)).trans ((if_neg (by decide)).trans hvv)) (fr_self ((if_neg (by decide)).trans htl) (fr_self hhr F)))
  cases hT with
  | plain =>
    k_steps
    refine Stop.out ?_
    k_dflt (refine ne_lists 0 (News.isList (by k_asm) (by k_mem)) (News.isList (by k_asm) (by k_mem)) (EqvAll.of_eq rfl) (by first | ktr_units | ke_room) ?_)
    k_steps
    have NN := news_drop (pre := [_, _]) (by assumption : News h₀ L _ (_ :: _ :: (src, srcO x y t u ep) :: rest))
    exact ⟨rfl, _, _, x, y, t, u, rest, rfl, hx, hy, hy', fun q hq => hq, hoff, NN, fr_cong (by assumption) (by funext z; dsimp only [mSet]; (repeat' split) <;> first | rfl | (rename_i e; rw [e]; first | exact hcc.symm | exact hvv.symm | exact htl.symm | exact hhr.symm)), trivial⟩
  | @rest tp tr tt h1 h2 =>
    have hdl : (c :: (zs.take fx.toNat ++ [.ref tp])).dropLast ++ zs.drop fx.toNat = [c] ++ zs := by
      have e : (c :: (zs.take fx.toNat ++ [.ref tp])) = (c :: zs.take fx.toNat) ++ [.ref tp] := rfl
      rw [e, List.dropLast_concat, List.cons_append, List.take_append_drop]
      rfl
    k_steps
    refine Stop.out ?_
    k_dflt (refine ne_lists 0 (News.isList (by k_asm) (by k_mem)) (News.isList (by k_asm) (by k_mem)) (EqvAll.of_eq hdl) (by first | ktr_units | ke_room) ?_)
    k_steps
    have NN := news_drop (pre := [_, _, _, _, _]) (by assumption : News h₀ L _ (_ :: _ :: _ :: _ :: _ :: (src, srcO x y t u ep) :: rest))
    exact ⟨rfl, _, _, x, y, t, u, rest, rfl, hx, hy, hy', fun q hq => hq, hoff, NN, fr_cong (by assumption) (by funext z; dsimp only [mSet]; (repeat' split) <;> first | rfl | (rename_i e; rw [e]; first | exact hcc.symm | exact hvv.symm | exact htl.symm | exact hhr.symm)), trivial⟩
end Mine

namespace Mine
open PySem.Calls PySem.Spec
local macro_rules | `(tactic| k_mem) => `(tactic| (refine memL ?_; (repeat (first | exact memH | ktr_member | exact memA (by ktr_member) | refine memT ?_ | refine memR ?_)); done))
local macro_rules | `(tactic| walk_at "eval ListComp") => `(tactic| (k_here; refine Stop.go ?_))
local macro_rules | `(tactic| walk_at "exec Assign cons ListComp") => `(tactic| (k_here; refine Stop.go ?_))
local macro_rules | `(tactic| walk_at "call ref") => `(tactic| (k_here; (with_reducible first | show wpAny _ _ (call (Value.ref 263) _) _ _ _ | show wpAny _ _ (call (Value.ref 268) _) _ _ _ | show wpAny _ _ (call (Value.ref 275) _) _ _ _ | show wpAny _ _ (call (Value.ref 161) _) _ _ _); refine Stop.go ?_))
local macro_rules | `(tactic| walk_at "CompSrc") => `(tactic| (k_here; refine Stop.go ?_))
local macro_rules | `(tactic| k_room) => `(tactic| ktr_room)
local macro_rules | `(tactic| walk_at "subscriptTail Name Slice ref ref") => `(tactic| (k_here; (with_reducible show wpAny _ _ (subscriptTail _ (PySem.Expr.Slice _ _ none _) (Value.ref _) (Value.ref _)) _ _ _); k_dflt (refine' kmk_slice_lit ?zF ?zN ?zl ?zp ?zq ?ze ?_ ?zs ?zt ?zz; (case zF => k_asm); (case zN => k_asm); (case zl => kmk_list); (case zp => kmk_part); (case zq => kmk_part); (case ze => first | exact sl_last | exact sl_upto (by omega) | exact sl_from (by omega)); (case zs => with_unfolding_all rfl); (case zt => kmk_pure); (case zz => (simp only [List.size_toArray, List.length_take, List.length_cons, List.length_append, List.length_nil, sizeLine_eq]; omega))); intro D' h' F' N' l1; (try k_lt l1); (try k_sweep)))
local macro_rules | `(tactic| walk_at "call type:list") => `(tactic| (k_here; (with_reducible show wpAny _ _ (call (Value.type _) [Value.ref _]) _ _ _); k_dflt (refine' list_copyK ?zF ?zN ?zl ?_ ?zz; (case zF => k_asm); (case zN => k_asm); (case zl => exact News.isList (by k_asm) (by k_mem)); (case zz => (simp only [List.size_toArray, List.length_take, List.length_drop, List.length_cons, List.length_append, List.length_nil, sizeLine_eq]; omega))); intro D' c' h' F' N' l1; (try k_lt l1); (try k_sweep)))
local macro_rules | `(tactic| walk_at "call type:tuple") => `(tactic| (k_here; (with_reducible show wpAny _ _ (call (Value.type _) [Value.ref _]) _ _ _); k_dflt (refine' kde_tupleOf ?k1 ?k2 ?k3 ?k4 ?k5 ?_; (case k1 => k_asm); (case k2 => k_asm); (case k3 => exact News.isList (by k_asm) (by k_mem)); (case k4 => (simp only [List.size_toArray, List.length_take, List.length_drop]; omega)); (case k5 => exact rfl)); intro D' h' F' N' l1; (try k_lt l1); (try k_sweep)))
local macro_rules | `(tactic| walk_at "binaryOp Add ref ref") => `(tactic| (k_here; (with_reducible show wpAny _ _ (binaryOp _ (Value.ref _) (Value.ref _)) _ _ _); k_dflt (refine' kmk_add_lit ?zF ?zN ?za ?zb ?ze ?_ ?zz; (case zF => k_asm); (case zN => k_asm); (case za => kmk_list); (case zb => kmk_list); (case ze => exact add_e); (case zz => (simp only [List.toList_toArray, List.length_dropLast, List.length_take, List.length_drop, List.length_cons, List.length_append, List.length_nil, sizeLine_eq]; omega))); intro D' h' F' N' l1; (try k_lt l1); (try k_sweep)))
local macro_rules | `(tactic| walk_at "call builtin:len") => `(tactic| (k_here; (with_reducible show wpAny _ _ (call (Value.builtin "len") [Value.ref _]) _ _ _); k_dflt (first | (refine' len_tupN ?zN ?zm ?zf ?_; (case zN => k_asm); (case zm => k_mem); (case zf => ((try simp only [List.length_take, List.length_drop, List.length_cons, List.length_append, List.length_nil]); omega))) | (refine' len_lstN ?zN ?zm ?zf ?_; (case zN => k_asm); (case zm => k_mem); (case zf => ((try simp only [List.length_take, List.length_drop, List.length_cons, List.length_append, List.length_nil]); omega))))))
local macro_rules | `(tactic| walk_at "call type:list") => `(tactic| (k_here; (with_reducible show wpAny _ _ (call (Value.type _) [Value.ref _]) _ _ _); k_dflt (refine' list_copyKT ?zF ?zN ?zl ?_ ?zz; (case zF => k_asm); (case zN => k_asm); (case zl => exact News.isTup (by k_asm) (by k_mem)); (case zz => (simp only [List.size_toArray, List.length_take, List.length_drop, List.length_cons, List.length_append, List.length_nil, sizeLine_eq]; omega))); intro D' c' h' F' N' l1; (try k_lt l1); (try k_sweep)))
local macro_rules | `(tactic| walk_at "subscriptTail Name UnaryOp ref int") => `(tactic| (k_here; k_dflt (refine item_last (by k_asm) (by k_mem) ?_ (by with_unfolding_all rfl) (by kmk_pure))))
local macro_rules | `(tactic| walk_at "compareOp NotEq ref ref") => `(tactic| (k_here; refine Stop.go ?_))
theorem heldK {w : World} {h₀ h : Heap} {L : Addr} {m : Str → Option Value} (X : (hd.heap_39 w.params).In h₀) (F : Fr h₀ L h m) : Held h kx := by
  intro q hq
  obtain rfl := List.mem_singleton.mp hq
  exact Fr.keep F _ _ (X 22 _ (by with_unfolding_all rfl))
theorem blk11 {w : World} {p : Program} {loose : List Str} {mean : ExcName → Option Value} {mg mb : Str → Option Value} {dp un : Nat} {gd : Option (List Code)} {L a : Addr} {ccd : Value} {outer : List Env} {A₀ : Around} {base h₀ : Heap} {m : Str → Option Value} {s : Shared} {E : Value → Shared → Prop} {src : Addr} {oc : Obj} {x y : Int} {t u : Tok} {ep : Nat} {rest : Led} {c k hdv : Value} {va ra hv : Addr} {ys : List Value} {vks : List (Value × Value)} {ps : List (Dat × Dat)} {tb : Str} {dc dk : Dat} (hcc : m (Str.ofString "callee") = some c) (hkk : m (Str.ofString "kind") = some k) (hhh : m (Str.ofString "heap") = some (.ref hv)) (hvv : m (Str.ofString "values") = some (.ref va)) (hrr : m (Str.ofString "rows") = some (.ref ra)) (hC : CalleeIn rest c k tb hdv dc dk) (hva : (va, LCg.lst (vks.map Prod.fst)) ∈ rest) (hra : (ra, LCg.lst ys) ∈ rest) (hrows : RowsIn 2 rest ys vks ps) (hyl : ys.length ≤ 7) (B : Below A₀ base outer h₀) (F : Fr h₀ L s.heap m) (X : (hd.heap_39 w.params).In h₀) (N : News h₀ L s.heap ((src, srcO x y t u ep) :: rest)) (T : Top p loose mean mg mb h₀) (hd' : dp + 40 < recursionLimit) (hu : un + 400 < cLine) (hoff : Off src rest) (hx : 0 ≤ x) (hy : 0 ≤ y) (hy' : y ≤ 2147483629) (hoc : oc.data = .cell (some (.ref src))) (hcell : (L + 1, oc) ∈ rest) :
    ∀ st11, lawBody[11]? = some st11 → wpAny (model PySem.Challenge.rw_pq0694_01.row.prog w) (lawA dp un gd L a ccd outer) (exec st11 (lawEnv L a ccd))
      (Nx fun s' => ∃ h' tk' x' y' t' u' rest', s' = { s with heap := h', toks := tk' } ∧ 0 ≤ x' ∧ 0 ≤ y' ∧ y' ≤ 2147483629 ∧ (∀ q ∈ rest, q ∈ rest') ∧ Off src rest' ∧ News h₀ L h' ((src, srcO x' y' t' u' ep) :: rest') ∧ Fr h₀ L h' (m) ∧ True) E s := by
  revert X
  k_fill
  intro X st11 e11
  cases e11
  replace F := (fr_self ((if_neg (by decide)).trans ((if_neg (by decide)).trans ((if_neg (by decide)).trans ((if_neg (by decide)).trans hrr)))) (fr_self ((if_neg (by decide)).trans ((if_neg (by decide)).trans ((if_neg (by decide)).trans hvv))) (fr_self ((if_neg (by decide)).trans ((if_neg (by decide)).trans hhh)) (fr_self ((if_neg (by decide)).trans hkk) (fr_self hcc F)))))
  have hlen := hrows.len.1
  have hlenp := hrows.len.2
  k_steps
  refine Stop.out ?_
  k_dflt (refine' tel_use (kind_all 0 dc dk _ rest hv c ?hs1 hC.ko hC.datC) ?B ?F ?X ?N (fun _ h => h) ?T ?hk ?hd ?hu ?ret)
  case B => k_asm
  case F => k_asm
  case X => k_asm
  case N => k_asm
  case T => k_asm
  case hk => rfl
  case hd => ktr_room
  case hu => ktr_units
  case hs1 => exact fun q hq => by first | exact memT hq | exact memT (memT hq) | exact memT (memT (memT hq))
  case ret =>
    rintro r0 nw h4 tk4 F4 N4 ⟨tl0, rfl, hAb0, hdat0⟩
    k_steps
    refine Stop.out ?_
    k_dflt (refine LCg.ListComp_U (F₀ := by k_asm) (by with_unfolding_all rfl) (by decide) (by rfl) (by decide) (by rfl) ?_)
    k_steps
    refine Stop.out ?_
    k_dflt (refine LCg.CompSrc.ledger (its := (vks.map Prod.fst).toArray) (by rfl) (by k_asm) (by k_asm) (by k_mem) (by rw [List.size_toArray, List.length_map, sizeLine_eq]; omega) ?_)
    intro g5
    refine compRest_inv (InvK (ps.map Prod.snd) rest _) ?_ ?_ _ 0 [] _ (Nat.zero_add _) ⟨[], rfl, Above.nil, rfl, DatAll.nil⟩
    · rintro i us nw v I oI C oC D m2 h5 tk5 E' hi hP hO hx5 F5 N5 off ne ⟨tl, rfl, hAb, hul, hdat⟩
      obtain ⟨d, hd, hvd⟩ := datAll_at hrows.fsts (by simpa using hP)
      obtain ⟨pr, hpr, hpd⟩ : ∃ pr, ps[i]? = some pr ∧ pr.1 = d := by
        rw [List.getElem?_map] at hd
        cases hq : ps[i]? with
        | none => rw [hq] at hd; cases hd
        | some pr => rw [hq] at hd; exact ⟨pr, rfl, Option.some.inj hd⟩
      subst hpd
      have hko2 := hrows.kos pr (List.mem_of_getElem? hpr)
      k_steps
      refine Stop.out ?_
      k_dflt (refine' tel_use (kind_all 2 pr.1 pr.2 _ rest hv v ?hs1 hko2 hvd) ?B ?F ?X ?N (fun _ h => h) ?T ?hk ?hd ?hu ?ret)
      case B => k_asm
      case F => k_asm
      case X => k_asm
      case N => k_asm
      case T => k_asm
      case hk => rfl
      case hd => ktr_room
      case hu => ktr_units
      case hs1 => exact fun q hq => memT (memT (memT (memR (memT (memR (memT (memT hq)))))))
      case ret =>
        rintro r1 nw h6 tk6 F6 N6 ⟨tl2, rfl, hAb2, hdat2⟩
        k_steps
        refine compEnd_of F6 N6 hAb2 off (Or.inr ⟨_, memR (memR (memT (memR (memT (memT hva))))), rfl, _, rfl⟩) ⟨tl2 ++ tl, (List.append_assoc _ _ _).symm, Above.app (hAb2.sub fun q hq => memT (memT (memT (memR hq)))) hAb, ?_, ?_⟩
        · rw [List.length_append, hul]; rfl
        · have e : (ps.map Prod.snd).take (i + 1) = (ps.map Prod.snd).take i ++ [pr.2] := by simp [List.take_add_one, hpr]
          rw [e, List.append_assoc]
          exact (hdat.mono fun q hq => memR hq).append (DatAll.one (hdat2.mono fun q hq => (List.mem_append.mp hq).elim memA fun h => memR (memR h)))
    · rintro us nw ⟨tl, rfl, hAb, hul, hdat⟩
      unfold LCg.FinE
      intro D5 h5 tk5 F5 N5 o5
      dsimp only
      have hus8 : us.length ≤ 7 := by rw [hul, List.size_toArray, List.length_map, hlen]; exact hyl
      k_steps
      refine Stop.out ?_
      k_dflt (refine LCg.ListComp_U (F₀ := by k_asm) (by with_unfolding_all rfl) (by decide) (by rfl) (by decide) (by rfl) ?_)
      k_steps
      refine Stop.out ?_
      k_dflt (refine LCg.CompSrc.ledger (its := ys.toArray) (by rfl) (by k_asm) (by k_asm) (by k_mem) (by rw [List.size_toArray, sizeLine_eq]; omega) ?_)
      intro g6
      refine compRest_inv (InvP (vks.map Prod.snd) _) ?_ ?_ _ 0 [] _ (Nat.zero_add _) ⟨rfl, rfl⟩
      · rintro i zs nw v I oI C oC D6 m6 h6 tk6 E' hi hP hO hx' F6 N6 off ne ⟨rfl, hzs⟩
        obtain ⟨rx, rv, rk, rfl, hrm, hrv⟩ := hrows.at (by simpa using hP)
        k_steps
        exact compEnd_of (tl := []) (by assumption) (by assumption) Above.nil off (Or.inr ⟨_, by k_mem, rfl, _, rfl⟩) ⟨rfl, invP_step hzs (by rw [List.getElem?_map, hrv]; rfl)⟩
      · rintro zs nw ⟨rfl, hzs⟩
        have hzv : zs = vks.map Prod.snd := by rw [hzs, List.size_toArray, List.take_of_length_le (by rw [List.length_map, hrows.len.1]; exact Nat.le_refl _)]
        have hzl : zs.length ≤ 7 := by rw [hzv, List.length_map, hlen]; exact hyl
        unfold LCg.FinE
        intro D6 h6 tk6 F6 N6 o6
        dsimp only
        k_steps
        refine Stop.out ?_
        have N9 := (by assumption : News h₀ L _ (_ :: _ :: _ :: _ :: _ :: _ :: _ :: _ :: _ :: (tl ++ (_ :: (tl0 ++ (_ :: (src, srcO x y t u ep) :: rest))))))
        have H1 := (heldN N9).app (heldK X (by assumption))
        have Hl0 := H1.sub (r := tl0 ++ (rest ++ kx)) fun q hq => by simp only [List.mem_append, List.mem_cons] at hq ⊢; rcases hq with hq | hq | hq <;> simp only [hq, true_or, or_true]
        have Hl := H1.sub (r := tl ++ (rest ++ kx)) fun q hq => by simp only [List.mem_append, List.mem_cons] at hq ⊢; rcases hq with hq | hq | hq <;> simp only [hq, true_or, or_true]
        have Hr := H1.sub (r := rest) fun q hq => by simp only [List.mem_append, List.mem_cons, hq, true_or, or_true]
        have hdat2 : DatAll (tl ++ (rest ++ kx)) us (ps.map Prod.snd) := by
          rw [List.size_toArray, List.length_map, hlen, List.take_of_length_le (by rw [List.length_map, hlenp]; exact Nat.le_refl _)] at hdat
          exact hdat
        have e0 := eqv_dat Hl0 Hr 8 dk _ _ hdat0 hC.datK (kqdOk_le hC.kq (by omega))
        have e1 := eqv_all Hl Hr 8 _ _ _ hdat2 (hzv ▸ hrows.snds) (fun d hd => kqdOk_le (hrows.oks d hd) (by omega))
        k_dflt (refine ne_tups 9 (news_tuple N9 (by k_mem)) (news_tuple N9 (by k_mem)) (.cons (.str _ _ _ _) (.cons (.tup 8 (news_tuple N9 (by k_mem)) (news_tuple N9 (by k_mem)) (.cons e0 e1)) (.cons (.same _ _) (.nil _)))) (by first | ktr_units | ke_room) ?_)
        k_steps
        have NN : News h₀ L _ ((src, srcO x y t u ep) :: rest) := fun q hq => (by assumption : News h₀ L _ (_ :: _ :: _ :: _ :: _ :: _ :: _ :: _ :: _ :: (tl ++ (_ :: (tl0 ++ (_ :: (src, srcO x y t u ep) :: rest)))))) q (memT (memT (memT (memT (memT (memT (memT (memT (memT (memR (memT (memR (memT hq)))))))))))))
        exact ⟨rfl, _, _, x, y, t, u, rest, rfl, hx, hy, hy', fun q hq => hq, hoff, NN, fr_cong (by assumption) (by funext z; dsimp only [mSet]; (repeat' split) <;> first | rfl | (rename_i e; rw [e]; first | exact hcc.symm | exact hkk.symm | exact hhh.symm | exact hvv.symm | exact hrr.symm)), trivial⟩
end Mine

namespace Mine
open PySem.Calls PySem.Spec
theorem kx_out {a : Addr} {v : Value} {vs : List Value} {n : Nat} {tl rest : Led} (h : (a, ({ cls := .type "tuple", data := .seq (List.toArray (v :: vs)) n } : Obj)) ∈ tl ++ (rest ++ kx)) : (a, ({ cls := .type "tuple", data := .seq (List.toArray (v :: vs)) n } : Obj)) ∈ tl ++ rest := by
  rcases List.mem_append.mp h with h | h
  · exact memA h
  · rcases List.mem_append.mp h with h | h
    · exact memR h
    · have e := congrArg (fun q : Addr × Obj => q.2.data) (List.mem_singleton.mp h)
      have e2 : (List.toArray (v :: vs)) = (List.toArray []) := by injection e
      have e3 := congrArg Array.size e2
      simp at e3
local macro_rules | `(tactic| k_mem) => `(tactic| (refine memL ?_; (repeat (first | exact memH | ktr_member | exact memA (by ktr_member) | refine memT ?_ | refine memR ?_)); done))
local macro_rules | `(tactic| walk_at "eval ListComp") => `(tactic| (k_here; refine Stop.go ?_))
local macro_rules | `(tactic| walk_at "exec Assign cons ListComp") => `(tactic| (k_here; refine Stop.go ?_))
local macro_rules | `(tactic| walk_at "call ref") => `(tactic| (k_here; (with_reducible first | show wpAny _ _ (call (Value.ref 263) _) _ _ _ | show wpAny _ _ (call (Value.ref 268) _) _ _ _ | show wpAny _ _ (call (Value.ref 275) _) _ _ _ | show wpAny _ _ (call (Value.ref 161) _) _ _ _); refine Stop.go ?_))
local macro_rules | `(tactic| walk_at "CompSrc") => `(tactic| (k_here; refine Stop.go ?_))
local macro_rules | `(tactic| k_room) => `(tactic| ktr_room)
local macro_rules | `(tactic| walk_at "subscriptTail Name Slice ref ref") => `(tactic| (k_here; (with_reducible show wpAny _ _ (subscriptTail _ (PySem.Expr.Slice _ _ none _) (Value.ref _) (Value.ref _)) _ _ _); k_dflt (refine' kmk_slice_lit ?zF ?zN ?zl ?zp ?zq ?ze ?_ ?zs ?zt ?zz; (case zF => k_asm); (case zN => k_asm); (case zl => kmk_list); (case zp => kmk_part); (case zq => kmk_part); (case ze => first | exact sl_last | exact sl_upto (by omega) | exact sl_from (by omega)); (case zs => with_unfolding_all rfl); (case zt => kmk_pure); (case zz => (simp only [List.size_toArray, List.length_take, List.length_cons, List.length_append, List.length_nil, sizeLine_eq]; omega))); intro D' h' F' N' l1; (try k_lt l1); (try k_sweep)))
local macro_rules | `(tactic| walk_at "call type:list") => `(tactic| (k_here; (with_reducible show wpAny _ _ (call (Value.type _) [Value.ref _]) _ _ _); k_dflt (refine' list_copyK ?zF ?zN ?zl ?_ ?zz; (case zF => k_asm); (case zN => k_asm); (case zl => exact News.isList (by k_asm) (by k_mem)); (case zz => (simp only [List.size_toArray, List.length_take, List.length_drop, List.length_cons, List.length_append, List.length_nil, sizeLine_eq]; omega))); intro D' c' h' F' N' l1; (try k_lt l1); (try k_sweep)))
local macro_rules | `(tactic| walk_at "call type:tuple") => `(tactic| (k_here; (with_reducible show wpAny _ _ (call (Value.type _) [Value.ref _]) _ _ _); k_dflt (refine' kde_tupleOf ?k1 ?k2 ?k3 ?k4 ?k5 ?_; (case k1 => k_asm); (case k2 => k_asm); (case k3 => exact News.isList (by k_asm) (by k_mem)); (case k4 => (simp only [List.size_toArray, List.length_take, List.length_drop]; omega)); (case k5 => exact rfl)); intro D' h' F' N' l1; (try k_lt l1); (try k_sweep)))
local macro_rules | `(tactic| walk_at "binaryOp Add ref ref") => `(tactic| (k_here; (with_reducible show wpAny _ _ (binaryOp _ (Value.ref _) (Value.ref _)) _ _ _); k_dflt (refine' kmk_add_lit ?zF ?zN ?za ?zb ?ze ?_ ?zz; (case zF => k_asm); (case zN => k_asm); (case za => kmk_list); (case zb => kmk_list); (case ze => exact add_e); (case zz => (simp only [List.toList_toArray, List.length_dropLast, List.length_take, List.length_drop, List.length_cons, List.length_append, List.length_nil, sizeLine_eq]; omega))); intro D' h' F' N' l1; (try k_lt l1); (try k_sweep)))
local macro_rules | `(tactic| walk_at "call builtin:len") => `(tactic| (k_here; (with_reducible show wpAny _ _ (call (Value.builtin "len") [Value.ref _]) _ _ _); k_dflt (first | (refine' len_tupN ?zN ?zm ?zf ?_; (case zN => k_asm); (case zm => k_mem); (case zf => ((try simp only [List.length_take, List.length_drop, List.length_cons, List.length_append, List.length_nil]); omega))) | (refine' len_lstN ?zN ?zm ?zf ?_; (case zN => k_asm); (case zm => k_mem); (case zf => ((try simp only [List.length_take, List.length_drop, List.length_cons, List.length_append, List.length_nil]); omega))))))
local macro_rules | `(tactic| walk_at "call type:list") => `(tactic| (k_here; (with_reducible show wpAny _ _ (call (Value.type _) [Value.ref _]) _ _ _); k_dflt (refine' list_copyKT ?zF ?zN ?zl ?_ ?zz; (case zF => k_asm); (case zN => k_asm); (case zl => exact News.isTup (by k_asm) (by k_mem)); (case zz => (simp only [List.size_toArray, List.length_take, List.length_drop, List.length_cons, List.length_append, List.length_nil, sizeLine_eq]; omega))); intro D' c' h' F' N' l1; (try k_lt l1); (try k_sweep)))
local macro_rules | `(tactic| walk_at "subscriptTail Name UnaryOp ref int") => `(tactic| (k_here; k_dflt (refine item_last (by k_asm) (by k_mem) ?_ (by with_unfolding_all rfl) (by kmk_pure))))
local macro_rules | `(tactic| walk_at "compareOp NotEq ref ref") => `(tactic| (k_here; refine Stop.go ?_))
theorem blk12 {w : World} {p : Program} {loose : List Str} {mean : ExcName → Option Value} {mg mb : Str → Option Value} {dp un : Nat} {gd : Option (List Code)} {L a : Addr} {ccd : Value} {outer : List Env} {A₀ : Around} {base h₀ : Heap} {m : Str → Option Value} {s : Shared} {E : Value → Shared → Prop} {src : Addr} {oc : Obj} {x y : Int} {t u : Tok} {ep : Nat} {rest : Led} {c k hdv : Value} {hv : Addr} {tb : Str} {tt : Tok} {dc dk : Dat} (hcc : m (Str.ofString "callee") = some c) (hhh : m (Str.ofString "heap") = some (.ref hv)) (htt : m (Str.ofString "table") = some (.str tb tt)) (hhd : m (Str.ofString "held") = some hdv) (hC : CalleeIn rest c k tb hdv dc dk) (B : Below A₀ base outer h₀) (F : Fr h₀ L s.heap m) (X : (hd.heap_39 w.params).In h₀) (N : News h₀ L s.heap ((src, srcO x y t u ep) :: rest)) (T : Top p loose mean mg mb h₀) (hd' : dp + 40 < recursionLimit) (hu : un + 400 < cLine) (hoff : Off src rest) (hx : 0 ≤ x) (hy : 0 ≤ y) (hy' : y ≤ 2147483629) (hoc : oc.data = .cell (some (.ref src))) (hcell : (L + 1, oc) ∈ rest) :
    ∀ st12, lawBody[12]? = some st12 → wpAny (model PySem.Challenge.rw_pq0694_01.row.prog w) (lawA dp un gd L a ccd outer) (exec st12 (lawEnv L a ccd))
      (Nx fun s' => ∃ h' tk' x' y' t' u' rest', s' = { s with heap := h', toks := tk' } ∧ 0 ≤ x' ∧ 0 ≤ y' ∧ y' ≤ 2147483629 ∧ (∀ q ∈ rest, q ∈ rest') ∧ Off src rest' ∧ News h₀ L h' ((src, srcO x' y' t' u' ep) :: rest') ∧ Fr h₀ L h' (m) ∧ True) E s := by
  revert X
  k_fill
  intro X st12 e12
  cases e12
  replace F := (fr_self ((if_neg (by decide)).trans ((if_neg (by decide)).trans ((if_neg (by decide)).trans hhd))) (fr_self ((if_neg (by decide)).trans ((if_neg (by decide)).trans htt)) (fr_self ((if_neg (by decide)).trans hhh) (fr_self hcc F))))
  have hdc := hC.datC
  have hko := hC.ko
  cases hC with
  | func hc1 hk1 =>
    k_steps
    refine Stop.out ?_
    k_dflt (refine' tel_use (kind_all 0 _ _ _ rest hv _ ?hs1 hko hdc) ?B ?F ?X ?N (fun _ h => h) ?T ?hk ?hd ?hu ?ret)
    case B => k_asm
    case F => k_asm
    case X => k_asm
    case N => k_asm
    case T => k_asm
    case hk => rfl
    case hd => ktr_room
    case hu => ktr_units
    case hs1 => exact fun q hq => by first | exact memT hq | exact memT (memT hq) | exact memT (memT (memT hq))
    case ret =>
      rintro r0 nw h4 tk4 F4 N4 ⟨tl0, rfl, hAb0, hdat0⟩
      replace N4 := news_mv N4
      replace hc1 : _ ∈ tl0 ++ rest := memR hc1
      obtain ⟨ka, kn, kv1, kv2, rfl, hkm, hk1, hk2⟩ := dat_tup2 hdat0
      replace hkm := kx_out hkm
      obtain ⟨kt1, rfl⟩ := dat_str hk1
      obtain ⟨kt2, rfl⟩ := dat_str hk2
      generalize hr2 : tl0 ++ rest = rest2 at *
      k_steps
      refine Stop.out ?_
      k_dflt (refine ne_tups 0 (news_tuple (by k_asm) (by k_mem)) (news_tuple (by k_asm) (by k_mem)) (.cons (.str _ _ _ _) (.cons (.str _ _ _ _) (.nil _))) (by first | ktr_units | ke_room) ?_)
      k_steps
      refine Stop.out ?_
      k_dflt (refine ne_tups 0 (news_tuple (by k_asm) (by k_mem)) (news_tuple (by k_asm) (by k_mem)) (.cons (.str _ _ _ _) (.cons (.str _ _ _ _) (.nil _))) (by first | ktr_units | ke_room) ?_)
      k_steps
      have NN := news_drop (pre := [_, _, _, _, _, _]) (by assumption : News h₀ L _ (_ :: _ :: _ :: _ :: _ :: _ :: (src, srcO x y t u ep) :: rest2))
      exact ⟨rfl, _, _, x, y, t, u, rest, rfl, hx, hy, hy', fun q hq => hq, hoff, fun q hq => NN q ((List.mem_cons.mp hq).elim (fun e => e ▸ memH) fun h => memT (hr2 ▸ memR h)), fr_cong (by assumption) (by funext z; dsimp only [mSet]; (repeat' split) <;> first | rfl | (rename_i e; rw [e]; first | exact hcc.symm | exact hhh.symm | exact htt.symm | exact hhd.symm)), trivial⟩
  | clos hc1 hh1 hk1 =>
    k_steps
    refine Stop.out ?_
    k_dflt (refine' tel_use (kind_all 0 _ _ _ rest hv _ ?hs1 hko hdc) ?B ?F ?X ?N (fun _ h => h) ?T ?hk ?hd ?hu ?ret)
    case B => k_asm
    case F => k_asm
    case X => k_asm
    case N => k_asm
    case T => k_asm
    case hk => rfl
    case hd => ktr_room
    case hu => ktr_units
    case hs1 => exact fun q hq => by first | exact memT hq | exact memT (memT hq) | exact memT (memT (memT hq))
    case ret =>
      rintro r0 nw h4 tk4 F4 N4 ⟨tl0, rfl, hAb0, hdat0⟩
      replace N4 := news_mv N4
      replace hc1 : _ ∈ tl0 ++ rest := memR hc1
      obtain ⟨ka, kn, kv1, kv2, rfl, hkm, hk1, hk2⟩ := dat_tup2 hdat0
      replace hkm := kx_out hkm
      obtain ⟨kt1, rfl⟩ := dat_str hk1
      obtain ⟨kt2, rfl⟩ := dat_str hk2
      generalize hr2 : tl0 ++ rest = rest2 at *
      k_steps
      refine Stop.out ?_
      k_dflt (refine ne_tups 0 (news_tuple (by k_asm) (by k_mem)) (news_tuple (by k_asm) (by k_mem)) (.cons (.str _ _ _ _) (.cons (.str _ _ _ _) (.cons (.same _ _) (.nil _)))) (by first | ktr_units | ke_room) ?_)
      k_steps
      refine Stop.out ?_
      k_dflt (refine ne_tups 0 (news_tuple (by k_asm) (by k_mem)) (news_tuple (by k_asm) (by k_mem)) (.cons (.str _ _ _ _) (.cons (.str _ _ _ _) (.cons (.same _ _) (.nil _)))) (by first | ktr_units | ke_room) ?_)
      k_steps
      have NN := news_drop (pre := [_, _, _, _, _, _]) (by assumption : News h₀ L _ (_ :: _ :: _ :: _ :: _ :: _ :: (src, srcO x y t u ep) :: rest2))
      exact ⟨rfl, _, _, x, y, t, u, rest, rfl, hx, hy, hy', fun q hq => hq, hoff, fun q hq => NN q ((List.mem_cons.mp hq).elim (fun e => e ▸ memH) fun h => memT (hr2 ▸ memR h)), fr_cong (by assumption) (by funext z; dsimp only [mSet]; (repeat' split) <;> first | rfl | (rename_i e; rw [e]; first | exact hcc.symm | exact hhh.symm | exact htt.symm | exact hhd.symm)), trivial⟩
  | type hc1 hc2 hk1 =>
    k_steps
    refine Stop.out ?_
    k_dflt (refine' tel_use (kind_all 0 _ _ _ rest hv _ ?hs1 hko hdc) ?B ?F ?X ?N (fun _ h => h) ?T ?hk ?hd ?hu ?ret)
    case B => k_asm
    case F => k_asm
    case X => k_asm
    case N => k_asm
    case T => k_asm
    case hk => rfl
    case hd => ktr_room
    case hu => ktr_units
    case hs1 => exact fun q hq => by first | exact memT hq | exact memT (memT hq) | exact memT (memT (memT hq))
    case ret =>
      rintro r0 nw h4 tk4 F4 N4 ⟨tl0, rfl, hAb0, hdat0⟩
      replace N4 := news_mv N4
      replace hc1 : _ ∈ tl0 ++ rest := memR hc1
      obtain ⟨ka, kn, kv1, kv2, rfl, hkm, hk1, hk2⟩ := dat_tup2 hdat0
      replace hkm := kx_out hkm
      obtain ⟨kt1, rfl⟩ := dat_str hk1
      obtain ⟨kb, kn2, kv3, kv4, kv5, rfl, hkm2, hk3, hk4, hk5⟩ := dat_tup3 hk2
      replace hkm2 := kx_out hkm2
      obtain ⟨kt3, rfl⟩ := dat_str hk3
      obtain ⟨kt4, rfl⟩ := dat_str hk4
      generalize hr2 : tl0 ++ rest = rest2 at *
      k_steps
      refine Stop.out ?_
      k_dflt (refine ne_tups 0 (news_tuple (by k_asm) (by k_mem)) (news_tuple (by k_asm) (by k_mem)) (.cons (.str _ _ _ _) (.cons (.str _ _ _ _) (.nil _))) (by first | ktr_units | ke_room) ?_)
      k_steps
      refine Stop.out ?_
      k_dflt (refine ne_tups 0 (news_tuple (by k_asm) (by k_mem)) (news_tuple (by k_asm) (by k_mem)) (.cons (.str _ _ _ _) (.cons (.str _ _ _ _) (.nil _))) (by first | ktr_units | ke_room) ?_)
      k_steps
      have NN := news_drop (pre := [_, _, _, _, _, _, _, _]) (by assumption : News h₀ L _ (_ :: _ :: _ :: _ :: _ :: _ :: _ :: _ :: (src, srcO x y t u ep) :: rest2))
      exact ⟨rfl, _, _, x, y, t, u, rest, rfl, hx, hy, hy', fun q hq => hq, hoff, fun q hq => NN q ((List.mem_cons.mp hq).elim (fun e => e ▸ memH) fun h => memT (hr2 ▸ memR h)), fr_cong (by assumption) (by funext z; dsimp only [mSet]; (repeat' split) <;> first | rfl | (rename_i e; rw [e]; first | exact hcc.symm | exact hhh.symm | exact htt.symm | exact hhd.symm)), trivial⟩
end Mine

namespace Mine
open PySem.Calls PySem.Spec
local macro_rules | `(tactic| k_mem) => `(tactic| (refine memL ?_; (repeat (first | exact memH | ktr_member | exact memA (by ktr_member) | refine memT ?_ | refine memR ?_)); done))
local macro_rules | `(tactic| walk_at "eval ListComp") => `(tactic| (k_here; refine Stop.go ?_))
local macro_rules | `(tactic| walk_at "exec Assign cons ListComp") => `(tactic| (k_here; refine Stop.go ?_))
local macro_rules | `(tactic| walk_at "call ref") => `(tactic| (k_here; (with_reducible first | show wpAny _ _ (call (Value.ref 263) _) _ _ _ | show wpAny _ _ (call (Value.ref 268) _) _ _ _ | show wpAny _ _ (call (Value.ref 275) _) _ _ _ | show wpAny _ _ (call (Value.ref 161) _) _ _ _); refine Stop.go ?_))
local macro_rules | `(tactic| walk_at "CompSrc") => `(tactic| (k_here; refine Stop.go ?_))
local macro_rules | `(tactic| k_room) => `(tactic| ktr_room)
local macro_rules | `(tactic| walk_at "subscriptTail Name Slice ref ref") => `(tactic| (k_here; (with_reducible show wpAny _ _ (subscriptTail _ (PySem.Expr.Slice _ _ none _) (Value.ref _) (Value.ref _)) _ _ _); k_dflt (refine' kmk_slice_lit ?zF ?zN ?zl ?zp ?zq ?ze ?_ ?zs ?zt ?zz; (case zF => k_asm); (case zN => k_asm); (case zl => kmk_list); (case zp => kmk_part); (case zq => kmk_part); (case ze => first | exact sl_last | exact sl_upto (by omega) | exact sl_from (by omega)); (case zs => with_unfolding_all rfl); (case zt => kmk_pure); (case zz => (simp only [List.size_toArray, List.length_take, List.length_cons, List.length_append, List.length_nil, sizeLine_eq]; omega))); intro D' h' F' N' l1; (try k_lt l1); (try k_sweep)))
local macro_rules | `(tactic| walk_at "call type:list") => `(tactic| (k_here; (with_reducible show wpAny _ _ (call (Value.type _) [Value.ref _]) _ _ _); k_dflt (refine' list_copyK ?zF ?zN ?zl ?_ ?zz; (case zF => k_asm); (case zN => k_asm); (case zl => exact News.isList (by k_asm) (by k_mem)); (case zz => (simp only [List.size_toArray, List.length_take, List.length_drop, List.length_cons, List.length_append, List.length_nil, sizeLine_eq]; omega))); intro D' c' h' F' N' l1; (try k_lt l1); (try k_sweep)))
local macro_rules | `(tactic| walk_at "call type:tuple") => `(tactic| (k_here; (with_reducible show wpAny _ _ (call (Value.type _) [Value.ref _]) _ _ _); k_dflt (refine' kde_tupleOf ?k1 ?k2 ?k3 ?k4 ?k5 ?_; (case k1 => k_asm); (case k2 => k_asm); (case k3 => exact News.isList (by k_asm) (by k_mem)); (case k4 => (simp only [List.size_toArray, List.length_take, List.length_drop]; omega)); (case k5 => exact rfl)); intro D' h' F' N' l1; (try k_lt l1); (try k_sweep)))
local macro_rules | `(tactic| walk_at "binaryOp Add ref ref") => `(tactic| (k_here; (with_reducible show wpAny _ _ (binaryOp _ (Value.ref _) (Value.ref _)) _ _ _); k_dflt (refine' kmk_add_lit ?zF ?zN ?za ?zb ?ze ?_ ?zz; (case zF => k_asm); (case zN => k_asm); (case za => kmk_list); (case zb => kmk_list); (case ze => exact add_e); (case zz => (simp only [List.toList_toArray, List.length_dropLast, List.length_take, List.length_drop, List.length_cons, List.length_append, List.length_nil, sizeLine_eq]; omega))); intro D' h' F' N' l1; (try k_lt l1); (try k_sweep)))
local macro_rules | `(tactic| walk_at "call builtin:len") => `(tactic| (k_here; (with_reducible show wpAny _ _ (call (Value.builtin "len") [Value.ref _]) _ _ _); k_dflt (first | (refine' len_tupN ?zN ?zm ?zf ?_; (case zN => k_asm); (case zm => k_mem); (case zf => ((try simp only [List.length_take, List.length_drop, List.length_cons, List.length_append, List.length_nil]); omega))) | (refine' len_lstN ?zN ?zm ?zf ?_; (case zN => k_asm); (case zm => k_mem); (case zf => ((try simp only [List.length_take, List.length_drop, List.length_cons, List.length_append, List.length_nil]); omega))))))
local macro_rules | `(tactic| walk_at "call type:list") => `(tactic| (k_here; (with_reducible show wpAny _ _ (call (Value.type _) [Value.ref _]) _ _ _); k_dflt (refine' list_copyKT ?zF ?zN ?zl ?_ ?zz; (case zF => k_asm); (case zN => k_asm); (case zl => exact News.isTup (by k_asm) (by k_mem)); (case zz => (simp only [List.size_toArray, List.length_take, List.length_drop, List.length_cons, List.length_append, List.length_nil, sizeLine_eq]; omega))); intro D' c' h' F' N' l1; (try k_lt l1); (try k_sweep)))
local macro_rules | `(tactic| walk_at "subscriptTail Name UnaryOp ref int") => `(tactic| (k_here; k_dflt (refine item_last (by k_asm) (by k_mem) ?_ (by with_unfolding_all rfl) (by kmk_pure))))
local macro_rules | `(tactic| walk_at "subscriptTail List Slice ref ref") => `(tactic| (k_here; (with_reducible show wpAny _ _ (subscriptTail _ (PySem.Expr.Slice _ _ none _) (Value.ref _) (Value.ref _)) _ _ _); k_dflt (refine' kmk_slice_lit ?zF ?zN ?zl ?zp ?zq ?ze ?_ ?zs ?zt ?zz; (case zF => k_asm); (case zN => k_asm); (case zl => kmk_list); (case zp => kmk_part); (case zq => kmk_part); (case ze => first | exact sl_last | exact sl_upto (by omega) | exact sl_from (by omega)); (case zs => with_unfolding_all rfl); (case zt => kmk_pure); (case zz => (simp only [List.size_toArray, List.length_take, List.length_cons, List.length_append, List.length_nil, sizeLine_eq]; omega))); intro D' h' F' N' l1; (try k_lt l1); (try k_sweep)))
theorem blk13 {w : World} {p : Program} {loose : List Str} {mean : ExcName → Option Value} {mg mb : Str → Option Value} {dp un : Nat} {gd : Option (List Code)} {L a : Addr} {ccd : Value} {outer : List Env} {A₀ : Around} {base h₀ : Heap} {m : Str → Option Value} {s : Shared} {E : Value → Shared → Prop} {src : Addr} {oc : Obj} {x y : Int} {t u : Tok} {ep : Nat} {rest : Led}  (B : Below A₀ base outer h₀) (F : Fr h₀ L s.heap m) (X : (hd.heap_39 w.params).In h₀) (N : News h₀ L s.heap ((src, srcO x y t u ep) :: rest)) (T : Top p loose mean mg mb h₀) (hd' : dp + 40 < recursionLimit) (hu : un + 400 < cLine) (hoff : Off src rest) (hx : 0 ≤ x) (hy : 0 ≤ y) (hy' : y ≤ 2147483629) (hoc : oc.data = .cell (some (.ref src))) (hcell : (L + 1, oc) ∈ rest) :
    ∀ st13, lawBody[13]? = some st13 → wpAny (model PySem.Challenge.rw_pq0694_01.row.prog w) (lawA dp un gd L a ccd outer) (exec st13 (lawEnv L a ccd))
      (Nx fun s' => ∃ h' tk' x' y' t' u' rest' na ns, s' = { s with heap := h', toks := tk' } ∧ 0 ≤ x' ∧ 0 ≤ y' ∧ y' ≤ 2147483629 ∧ (∀ q ∈ rest, q ∈ rest') ∧ Off src rest' ∧ News h₀ L h' ((src, srcO x' y' t' u' ep) :: rest') ∧ Fr h₀ L h' (mSet "names" (.ref na) m) ∧ (na, W.listOf (List.toArray ns) 0) ∈ rest' ∧ ns.length ≤ 3) E s := by
  revert X
  k_fill
  intro X st13 e13
  cases e13
  k_steps
  refine Stop.out ?_
  k_dflt (refine' digit_use [_] ?B ?F ?X ?N ?T ?o1 ?o2 hx hy hy' ?hm ?hm2 ?hk ?hd ?hu ?ret)
  case B => k_asm
  case F => k_asm
  case X => k_asm
  case N => k_asm
  case T => k_asm
  case o1 => exact (by (repeat (refine List.forall_mem_cons.mpr ⟨by refine neN ?_; dsimp only; omega, ?_⟩)); exact List.forall_mem_nil _)
  case o2 => exact hoff
  case hm => decide
  case hm2 => decide
  case hk => rfl
  case hd => ktr_room
  case hu => ktr_units
  case ret =>
    intro d1 td1 x1 y1 t1 u1 h1 tk1 hd10 hd11 hx1 hy1 hy1' F1 N1
    replace N1 := id N1
    dsimp only [List.cons_append, List.nil_append] at N1
    k_steps
    have NN := news_mv (pre := [_, _]) (by assumption : News h₀ L _ (_ :: _ :: (src, srcO x1 y1 t1 u1 ep) :: rest))
    refine ⟨rfl, _, _, x1, y1, t1, u1, _, _, _, rfl, hx1, hy1, hy1', fun q hq => memR hq, off_app ?_ hoff, NN, by assumption, memA memH, by simp only [List.length_take, List.length_cons, List.length_nil]; omega⟩
    exact (by (repeat (refine List.forall_mem_cons.mpr ⟨by refine neN ?_; dsimp only; omega, ?_⟩)); exact List.forall_mem_nil _)

def InvG (src : Addr) (o : Obj) (ep : Nat) (rest : Led) (i : Nat) (ys : List Value) (nw : Led) : Prop :=
  ∃ tl x y t u, nw = (src, srcO x y t u ep) :: (tl ++ rest) ∧ Above ((src, o) :: rest) tl ∧ 0 ≤ x ∧ 0 ≤ y ∧ y ≤ 2147483629 ∧ ys.length = i
theorem blk14 {w : World} {p : Program} {loose : List Str} {mean : ExcName → Option Value} {mg mb : Str → Option Value} {dp un : Nat} {gd : Option (List Code)} {L a : Addr} {ccd : Value} {outer : List Env} {A₀ : Around} {base h₀ : Heap} {m : Str → Option Value} {s : Shared} {E : Value → Shared → Prop} {src : Addr} {oc : Obj} {x y : Int} {t u : Tok} {ep : Nat} {rest : Led} {na : Addr} {nn : Nat} {ns : List Value} (hnn : m (Str.ofString "names") = some (.ref na)) (hna : (na, W.listOf (List.toArray ns) nn) ∈ rest) (hnl : ns.length ≤ 3) (B : Below A₀ base outer h₀) (F : Fr h₀ L s.heap m) (X : (hd.heap_39 w.params).In h₀) (N : News h₀ L s.heap ((src, srcO x y t u ep) :: rest)) (T : Top p loose mean mg mb h₀) (hd' : dp + 40 < recursionLimit) (hu : un + 400 < cLine) (hoff : Off src rest) (hx : 0 ≤ x) (hy : 0 ≤ y) (hy' : y ≤ 2147483629) (hoc : oc.data = .cell (some (.ref src))) (hcell : (L + 1, oc) ∈ rest) :
    ∀ st14, lawBody[14]? = some st14 → wpAny (model PySem.Challenge.rw_pq0694_01.row.prog w) (lawA dp un gd L a ccd outer) (exec st14 (lawEnv L a ccd))
      (Nx fun s' => ∃ h' tk' x' y' t' u' rest' ga gs, s' = { s with heap := h', toks := tk' } ∧ 0 ≤ x' ∧ 0 ≤ y' ∧ y' ≤ 2147483629 ∧ (∀ q ∈ rest, q ∈ rest') ∧ Off src rest' ∧ News h₀ L h' ((src, srcO x' y' t' u' ep) :: rest') ∧ Fr h₀ L h' (mSet "given" (.ref ga) m) ∧ (ga, LCg.lst gs) ∈ rest' ∧ gs.length ≤ 3) E s := by
  revert X
  k_fill
  intro X st14 e14
  cases e14
  replace F := (fr_self hnn F)
  k_steps
  refine Stop.out ?_
  k_dflt (refine LCg.Assign_ListComp_U (F₀ := by k_asm) (by rfl) (by with_unfolding_all rfl) (by with_unfolding_all rfl) (by decide) (by rfl) (by decide) (by rfl) (by rfl) (by rfl) ?_)
  k_steps
  refine Stop.out ?_
  k_dflt (refine LCg.CompSrc.ledger (its := ns.toArray) (by rfl) (by k_asm) (by k_asm) (by k_mem) (by rw [List.size_toArray, sizeLine_eq]; omega) ?_)
  intro g5
  refine compRest_inv (InvG src (srcO x y t u ep) ep rest) ?_ ?_ _ 0 [] _ (Nat.zero_add _) ⟨[], x, y, t, u, rfl, Above.nil, hx, hy, hy', rfl⟩
  · rintro i ys nw v I oI C oC D m2 h3 tk3 E' hi hP hO hx' F3 N3 off ne ⟨tl, x3, y3, t3, u3, rfl, hab, hx3, hy3, hy3', hyl⟩
    k_steps
    refine Stop.out ?_
    k_dflt (refine' val_use (val_all 1) [_, _, _] ?B ?F ?X ?N ?T ?o1 ?o2 hx3 hy3 hy3' ?hk ?hd ?hu ?ret)
    case B => k_asm
    case F => k_asm
    case X => k_asm
    case N => k_asm
    case T => k_asm
    case o1 => exact off_3 (pre := []) off (List.forall_mem_nil _)
    case o2 => exact off_app (off_above (pre := []) hab) hoff
    case hk => rfl
    case hd => ktr_room
    case hu => ktr_units
    case ret =>
      intro b4 v4 kd4 dv4 dk4 tl4 x4 y4 t4 u4 h4 tk4 hx4 hy4 hy4' hab4 hm4 hv4 hk4 ko4 kq4 F4 N4
      k_steps
      refine vturn_end (pre := []) F4 N4 off hab4 (Or.inr ⟨_, memT (memR hna), rfl, _, rfl⟩) ⟨tl4 ++ tl, x4, y4, t4, u4, rfl, Above.app ((above_obj (o' := srcO x y t u ep) (pre := []) (hab4.sub fun q hq => .tail _ (.tail _ (.tail _ hq)))).sub fun q hq => ?_) hab, hx4, hy4, hy4', by rw [List.length_append, hyl]; rfl⟩
      exact (List.mem_cons.mp hq).elim (fun e => e ▸ memH) fun h => memT (memR h)
  · rintro ys nw ⟨tl, x3, y3, t3, u3, rfl, hab, hx3, hy3, hy3', hyl⟩
    unfold LCg.FinA
    intro D h3 tk3 F3 N3 o1
    dsimp only
    k_steps
    exact ⟨rfl, _, _, x3, y3, t3, u3, (D, LCg.lst ys) :: (tl ++ rest), D, ys, rfl, hx3, hy3, hy3', fun q hq => memT (memR hq), List.forall_mem_cons.mpr ⟨Ne.symm o1.1, off_app (off_above (pre := []) hab) hoff⟩, news_swap (by assumption), fr_cong (by assumption) (by funext z; dsimp only [mSet]; (repeat' split) <;> first | rfl | (rename_i e; rw [e]; first | exact hnn.symm)), memH, by rw [hyl, List.size_toArray]; exact hnl⟩
end Mine

namespace Mine
open PySem.Calls PySem.Spec
inductive SymIn (l : Led) : List Value → List Value → Prop
  | nil : SymIn l [] []
  | cons {a : Addr} {tk : Tok} {v : Value} {ys ns : List Value} : (a, TupO [.str (Str.ofString "sym") tk, v]) ∈ l → SymIn l ys ns → SymIn l (.ref a :: ys) (v :: ns)
theorem SymIn.mono {l l' : Led} {ys ns : List Value} (h : SymIn l ys ns) (s : ∀ q ∈ l, q ∈ l') : SymIn l' ys ns := by
  induction h with
  | nil => exact .nil
  | cons a _ ih => exact .cons (s _ a) ih
theorem SymIn.snoc {l : Led} {ys ns : List Value} {a : Addr} {tk : Tok} {v : Value} (h : SymIn l ys ns) (m : (a, TupO [.str (Str.ofString "sym") tk, v]) ∈ l) : SymIn l (ys ++ [.ref a]) (ns ++ [v]) := by
  induction h with
  | nil => exact .cons m .nil
  | cons a _ ih => exact .cons a ih
theorem SymIn.len {l : Led} {ys ns : List Value} (h : SymIn l ys ns) : ys.length = ns.length := by
  induction h with
  | nil => rfl
  | cons _ _ ih => exact congrArg (· + 1) ih
theorem SymIn.eqv {h : Heap} {l l' : Led} (hl : Held h l) (hl' : Held h l') {ns : List Value} : ∀ {ys zs : List Value}, SymIn l ys ns → SymIn l' zs ns → EqvAll h 1 ys zs := by
  induction ns with
  | nil => intro ys zs a b; cases a; cases b; exact .nil _
  | cons v ns ih =>
    intro ys zs a b
    cases a with | cons a1 a2 => cases b with | cons b1 b2 => exact .cons (.tup 0 ⟨_, hl _ a1, rfl, _, rfl⟩ ⟨_, hl' _ b1, rfl, _, rfl⟩ (.cons (.str _ _ _ _) (.cons (.same _ _) (.nil _)))) (ih a2 b2)
theorem news_pick {h₀ h : Heap} {L : Addr} {a1 a2 a3 a4 a5 a6 a7 a8 x d : Addr × Obj} {tl l : Led} (N : News h₀ L h (a1 :: a2 :: a3 :: a4 :: a5 :: a6 :: a7 :: a8 :: (tl ++ (x :: d :: l)))) : News h₀ L h (d :: a1 :: a4 :: a5 :: a6 :: a7 :: (tl ++ l)) := fun q hq => N q (by
  simp only [List.mem_cons, List.mem_append] at hq ⊢
  rcases hq with hq | hq | hq | hq | hq | hq | hq | hq <;> simp only [hq, true_or, or_true])
def InvS (ns : List Value) (N0 : Led) (i : Nat) (ys : List Value) (nw : Led) : Prop := ∃ tl, nw = tl ++ N0 ∧ Above N0 tl ∧ SymIn tl ys (ns.take i)
local macro_rules | `(tactic| k_mem) => `(tactic| (refine memL ?_; (repeat (first | exact memH | ktr_member | exact memA (by ktr_member) | refine memT ?_ | refine memR ?_)); done))
local macro_rules | `(tactic| walk_at "eval ListComp") => `(tactic| (k_here; refine Stop.go ?_))
local macro_rules | `(tactic| walk_at "exec Assign cons ListComp") => `(tactic| (k_here; refine Stop.go ?_))
local macro_rules | `(tactic| walk_at "call ref") => `(tactic| (k_here; (with_reducible first | show wpAny _ _ (call (Value.ref 263) _) _ _ _ | show wpAny _ _ (call (Value.ref 268) _) _ _ _ | show wpAny _ _ (call (Value.ref 275) _) _ _ _ | show wpAny _ _ (call (Value.ref 161) _) _ _ _); refine Stop.go ?_))
local macro_rules | `(tactic| walk_at "CompSrc") => `(tactic| (k_here; refine Stop.go ?_))
local macro_rules | `(tactic| k_room) => `(tactic| ktr_room)
local macro_rules | `(tactic| walk_at "subscriptTail Name Slice ref ref") => `(tactic| (k_here; (with_reducible show wpAny _ _ (subscriptTail _ (PySem.Expr.Slice _ _ none _) (Value.ref _) (Value.ref _)) _ _ _); k_dflt (refine' kmk_slice_lit ?zF ?zN ?zl ?zp ?zq ?ze ?_ ?zs ?zt ?zz; (case zF => k_asm); (case zN => k_asm); (case zl => kmk_list); (case zp => kmk_part); (case zq => kmk_part); (case ze => first | exact sl_last | exact sl_upto (by omega) | exact sl_from (by omega)); (case zs => with_unfolding_all rfl); (case zt => kmk_pure); (case zz => (simp only [List.size_toArray, List.length_take, List.length_cons, List.length_append, List.length_nil, sizeLine_eq]; omega))); intro D' h' F' N' l1; (try k_lt l1); (try k_sweep)))
local macro_rules | `(tactic| walk_at "call type:list") => `(tactic| (k_here; (with_reducible show wpAny _ _ (call (Value.type _) [Value.ref _]) _ _ _); k_dflt (refine' list_copyK ?zF ?zN ?zl ?_ ?zz; (case zF => k_asm); (case zN => k_asm); (case zl => exact News.isList (by k_asm) (by k_mem)); (case zz => (simp only [List.size_toArray, List.length_take, List.length_drop, List.length_cons, List.length_append, List.length_nil, sizeLine_eq]; omega))); intro D' c' h' F' N' l1; (try k_lt l1); (try k_sweep)))
local macro_rules | `(tactic| walk_at "call type:tuple") => `(tactic| (k_here; (with_reducible show wpAny _ _ (call (Value.type _) [Value.ref _]) _ _ _); k_dflt (refine' kde_tupleOf ?k1 ?k2 ?k3 ?k4 ?k5 ?_; (case k1 => k_asm); (case k2 => k_asm); (case k3 => exact News.isList (by k_asm) (by k_mem)); (case k4 => (simp only [List.size_toArray, List.length_take, List.length_drop]; omega)); (case k5 => exact rfl)); intro D' h' F' N' l1; (try k_lt l1); (try k_sweep)))
local macro_rules | `(tactic| walk_at "binaryOp Add ref ref") => `(tactic| (k_here; (with_reducible show wpAny _ _ (binaryOp _ (Value.ref _) (Value.ref _)) _ _ _); k_dflt (refine' kmk_add_lit ?zF ?zN ?za ?zb ?ze ?_ ?zz; (case zF => k_asm); (case zN => k_asm); (case za => kmk_list); (case zb => kmk_list); (case ze => exact add_e); (case zz => (simp only [List.toList_toArray, List.length_dropLast, List.length_take, List.length_drop, List.length_cons, List.length_append, List.length_nil, sizeLine_eq]; omega))); intro D' h' F' N' l1; (try k_lt l1); (try k_sweep)))
local macro_rules | `(tactic| walk_at "call builtin:len") => `(tactic| (k_here; (with_reducible show wpAny _ _ (call (Value.builtin "len") [Value.ref _]) _ _ _); k_dflt (first | (refine' len_tupN ?zN ?zm ?zf ?_; (case zN => k_asm); (case zm => k_mem); (case zf => ((try simp only [List.length_take, List.length_drop, List.length_cons, List.length_append, List.length_nil]); omega))) | (refine' len_lstN ?zN ?zm ?zf ?_; (case zN => k_asm); (case zm => k_mem); (case zf => ((try simp only [List.length_take, List.length_drop, List.length_cons, List.length_append, List.length_nil]); omega))))))
local macro_rules | `(tactic| walk_at "call type:list") => `(tactic| (k_here; (with_reducible show wpAny _ _ (call (Value.type _) [Value.ref _]) _ _ _); k_dflt (refine' list_copyKT ?zF ?zN ?zl ?_ ?zz; (case zF => k_asm); (case zN => k_asm); (case zl => exact News.isTup (by k_asm) (by k_mem)); (case zz => (simp only [List.size_toArray, List.length_take, List.length_drop, List.length_cons, List.length_append, List.length_nil, sizeLine_eq]; omega))); intro D' c' h' F' N' l1; (try k_lt l1); (try k_sweep)))
local macro_rules | `(tactic| walk_at "subscriptTail Name UnaryOp ref int") => `(tactic| (k_here; k_dflt (refine item_last (by k_asm) (by k_mem) ?_ (by with_unfolding_all rfl) (by kmk_pure))))
theorem blk15 {w : World} {p : Program} {loose : List Str} {mean : ExcName → Option Value} {mg mb : Str → Option Value} {dp un : Nat} {gd : Option (List Code)} {L a : Addr} {ccd : Value} {outer : List Env} {A₀ : Around} {base h₀ : Heap} {m : Str → Option Value} {s : Shared} {E : Value → Shared → Prop} {src : Addr} {oc : Obj} {x y : Int} {t u : Tok} {ep : Nat} {rest : Led} {na ga va : Addr} {nn : Nat} {ns gs zs : List Value} (hnn : m (Str.ofString "names") = some (.ref na)) (hgg : m (Str.ofString "given") = some (.ref ga)) (hvv : m (Str.ofString "values") = some (.ref va)) (hna : (na, W.listOf (List.toArray ns) nn) ∈ rest) (hnl : ns.length ≤ 3) (hga : (ga, LCg.lst gs) ∈ rest) (hgl : gs.length ≤ 3) (hva : (va, LCg.lst zs) ∈ rest) (hzl : zs.length ≤ 7) (B : Below A₀ base outer h₀) (F : Fr h₀ L s.heap m) (X : (hd.heap_39 w.params).In h₀) (N : News h₀ L s.heap ((src, srcO x y t u ep) :: rest)) (T : Top p loose mean mg mb h₀) (hd' : dp + 40 < recursionLimit) (hu : un + 400 < cLine) (hoff : Off src rest) (hx : 0 ≤ x) (hy : 0 ≤ y) (hy' : y ≤ 2147483629) (hoc : oc.data = .cell (some (.ref src))) (hcell : (L + 1, oc) ∈ rest) :
    ∀ st15, lawBody[15]? = some st15 → wpAny (model PySem.Challenge.rw_pq0694_01.row.prog w) (lawA dp un gd L a ccd outer) (exec st15 (lawEnv L a ccd))
      (Nx fun s' => ∃ h' tk' x' y' t' u' rest' sa td tv ts tg ys k1 k2, s' = { s with heap := h', toks := tk' } ∧ 0 ≤ x' ∧ 0 ≤ y' ∧ y' ≤ 2147483629 ∧ (∀ q ∈ rest, q ∈ rest') ∧ Off src rest' ∧ News h₀ L h' ((src, srcO x' y' t' u' ep) :: rest') ∧ Fr h₀ L h' (mSet "sorted_ones" (.ref sa) m) ∧ (sa, W.listOf (List.toArray (.ref td :: .ref tv :: zs)) 0) ∈ rest' ∧ (td, TupO [.str (Str.ofString "tuple") k1, .ref ts]) ∈ rest' ∧ (tv, TupO [.str (Str.ofString "tuple") k2, .ref tg]) ∈ rest' ∧ (ts, TupO ys) ∈ rest' ∧ (tg, TupO gs) ∈ rest' ∧ SymIn rest' ys ns) E s := by
  revert X
  k_fill
  intro X st15 e15
  cases e15
  replace F := (fr_self ((if_neg (by decide)).trans ((if_neg (by decide)).trans hvv)) (fr_self ((if_neg (by decide)).trans hgg) (fr_self hnn F)))
  k_steps
  refine Stop.out ?_
  k_dflt (refine comp_tup (by k_asm) (by with_unfolding_all rfl) (by decide) (by rfl) (by decide) (by rfl) ?_)
  k_steps
  refine ⟨_, ns.toArray, 0, _, rfl, rfl, by assumption, by assumption, by k_mem, ?_, ?_⟩
  · rw [List.size_toArray, sizeLine_eq]; omega
  rintro s2 ⟨g, rfl⟩
  refine compRest_inv (InvS ns _) ?_ ?_ _ 0 [] _ (Nat.zero_add _) ⟨[], rfl, Above.nil, .nil⟩
  · rintro i ys nw v I oI C oC D m2 h2 tk E' hi hP hO hx F2 N2 off ne ⟨tl, rfl, hAb, hsym⟩
    k_steps
    refine compEnd_of (tl := [_]) (by assumption) (by assumption) (above_base (b := _) ‹I < _ ∧ C < _ ∧ D < _ ∧ AllLt _ _› (List.forall_mem_cons.mpr ⟨Nat.le_refl _, List.forall_mem_nil _⟩)) off (memR (memR memH)) ⟨_ :: tl, rfl, Above.cons ?_ hAb, ?_⟩
    · exact fun q hq => lt_of_allLt (‹I < _ ∧ C < _ ∧ D < _ ∧ AllLt _ _›).2.2.2 q (memR hq)
    · have e : ns.take (i + 1) = ns.take i ++ [v] := by
        rw [List.take_add_one, show ns[i]? = some v by simpa using hP]; rfl
      rw [e]
      exact (hsym.mono fun q hq => memT hq).snoc memH
  · rintro ys nw ⟨tl, rfl, hAb, hsym⟩
    have hsl := hsym.len
    rw [List.length_take] at hsl
    unfold LCg.FinE
    intro D h3 tk F3 N3 o1
    dsimp only
    k_steps
    have hs5 : @LT.lt Nat _ src _ := lt_of_allLt (‹D < _ ∧ AllLt _ (tl ++ _)›).2 (src, srcO x y t u ep) (memR (memT memH))
    have NN := news_pick (by assumption : News h₀ L _ (_ :: _ :: _ :: _ :: _ :: _ :: _ :: _ :: (tl ++ (_ :: (src, srcO x y t u ep) :: rest))))
    refine ⟨rfl, _, _, x, y, t, u, _ :: _ :: _ :: _ :: _ :: (tl ++ rest), _, _, _, _, _, ys, _, _, rfl, hx, hy, hy', ?_, ?_, NN, fr_cong (by assumption) (by funext z; dsimp only [mSet]; (repeat' split) <;> first | rfl | (rename_i e; rw [e]; first | exact hnn.symm | exact hgg.symm | exact hvv.symm)), memH, memT (memT (memT memH)), memT memH, memT (memT (memT (memT memH))), memT (memT memH), ?_⟩
    · exact fun q hq => memT (memT (memT (memT (memT (memR hq)))))
    · exact off_app (l := [_, _, _, _, _]) (by (repeat (refine List.forall_mem_cons.mpr ⟨by refine neN ?_; dsimp only; omega, ?_⟩)); exact List.forall_mem_nil _) (off_app (fun q hq => Nat.ne_of_gt (hAb (src, srcO x y t u ep) (memT memH) q hq)) hoff)
    · rw [List.size_toArray, List.take_of_length_le (Nat.le_refl _)] at hsym
      exact hsym.mono fun q hq => memT (memT (memT (memT (memT (memA hq)))))
end Mine

namespace Mine
open PySem.Calls PySem.Spec
theorem item_first {prog : Program} {w : World} {A : Around} {E : Value → Shared → Prop} {s : Shared} {h₀ : Heap} {L : Addr} {news : Led} {value slice : Expr} {l : Addr} {v : Value} {ys : List Value} {n : Nat} {u : Tok} {Q : Value → Shared → Prop} (N : News h₀ L s.heap news) (hm : (l, W.listOf (List.toArray (v :: ys)) n) ∈ news) (h : Q v s)
    (hs : subscripted slice false (.ref l) (.int 0 u) = operate [.ref l, .int 0 u] (getItem (.ref l) (.int 0 u))) (hg : ∀ r, letTemporaryGo value (.ref l) r = pure ()) :
    wpAny (model prog w) A (subscriptTail value slice (.ref l) (.int 0 u)) Q E s :=
  item_list (News.isList N hm) (by decide) (by decide) (by rfl) h hs hg
local macro_rules | `(tactic| k_mem) => `(tactic| (refine memL ?_; (repeat (first | exact memH | ktr_member | exact memA (by ktr_member) | refine memT ?_ | refine memR ?_)); done))
local macro_rules | `(tactic| walk_at "eval ListComp") => `(tactic| (k_here; refine Stop.go ?_))
local macro_rules | `(tactic| walk_at "exec Assign cons ListComp") => `(tactic| (k_here; refine Stop.go ?_))
local macro_rules | `(tactic| walk_at "call ref") => `(tactic| (k_here; (with_reducible first | show wpAny _ _ (call (Value.ref 263) _) _ _ _ | show wpAny _ _ (call (Value.ref 268) _) _ _ _ | show wpAny _ _ (call (Value.ref 275) _) _ _ _ | show wpAny _ _ (call (Value.ref 161) _) _ _ _); refine Stop.go ?_))
local macro_rules | `(tactic| walk_at "CompSrc") => `(tactic| (k_here; refine Stop.go ?_))
local macro_rules | `(tactic| k_room) => `(tactic| ktr_room)
local macro_rules | `(tactic| walk_at "subscriptTail Name Slice ref ref") => `(tactic| (k_here; (with_reducible show wpAny _ _ (subscriptTail _ (PySem.Expr.Slice _ _ none _) (Value.ref _) (Value.ref _)) _ _ _); k_dflt (refine' kmk_slice_lit ?zF ?zN ?zl ?zp ?zq ?ze ?_ ?zs ?zt ?zz; (case zF => k_asm); (case zN => k_asm); (case zl => kmk_list); (case zp => kmk_part); (case zq => kmk_part); (case ze => first | exact sl_last | exact sl_upto (by omega) | exact sl_from (by omega)); (case zs => with_unfolding_all rfl); (case zt => kmk_pure); (case zz => (simp only [List.size_toArray, List.length_take, List.length_cons, List.length_append, List.length_nil, sizeLine_eq]; omega))); intro D' h' F' N' l1; (try k_lt l1); (try k_sweep)))
local macro_rules | `(tactic| walk_at "call type:list") => `(tactic| (k_here; (with_reducible show wpAny _ _ (call (Value.type _) [Value.ref _]) _ _ _); k_dflt (refine' list_copyK ?zF ?zN ?zl ?_ ?zz; (case zF => k_asm); (case zN => k_asm); (case zl => exact News.isList (by k_asm) (by k_mem)); (case zz => (simp only [List.size_toArray, List.length_take, List.length_drop, List.length_cons, List.length_append, List.length_nil, sizeLine_eq]; omega))); intro D' c' h' F' N' l1; (try k_lt l1); (try k_sweep)))
local macro_rules | `(tactic| walk_at "call type:tuple") => `(tactic| (k_here; (with_reducible show wpAny _ _ (call (Value.type _) [Value.ref _]) _ _ _); k_dflt (refine' kde_tupleOf ?k1 ?k2 ?k3 ?k4 ?k5 ?_; (case k1 => k_asm); (case k2 => k_asm); (case k3 => exact News.isList (by k_asm) (by k_mem)); (case k4 => (simp only [List.size_toArray, List.length_take, List.length_drop]; omega)); (case k5 => exact rfl)); intro D' h' F' N' l1; (try k_lt l1); (try k_sweep)))
local macro_rules | `(tactic| walk_at "binaryOp Add ref ref") => `(tactic| (k_here; (with_reducible show wpAny _ _ (binaryOp _ (Value.ref _) (Value.ref _)) _ _ _); k_dflt (refine' kmk_add_lit ?zF ?zN ?za ?zb ?ze ?_ ?zz; (case zF => k_asm); (case zN => k_asm); (case za => kmk_list); (case zb => kmk_list); (case ze => exact add_e); (case zz => (simp only [List.toList_toArray, List.length_dropLast, List.length_take, List.length_drop, List.length_cons, List.length_append, List.length_nil, sizeLine_eq]; omega))); intro D' h' F' N' l1; (try k_lt l1); (try k_sweep)))
local macro_rules | `(tactic| walk_at "call builtin:len") => `(tactic| (k_here; (with_reducible show wpAny _ _ (call (Value.builtin "len") [Value.ref _]) _ _ _); k_dflt (first | (refine' len_tupN ?zN ?zm ?zf ?_; (case zN => k_asm); (case zm => k_mem); (case zf => ((try simp only [List.length_take, List.length_drop, List.length_cons, List.length_append, List.length_nil]); omega))) | (refine' len_lstN ?zN ?zm ?zf ?_; (case zN => k_asm); (case zm => k_mem); (case zf => ((try simp only [List.length_take, List.length_drop, List.length_cons, List.length_append, List.length_nil]); omega))))))
local macro_rules | `(tactic| walk_at "call type:list") => `(tactic| (k_here; (with_reducible show wpAny _ _ (call (Value.type _) [Value.ref _]) _ _ _); k_dflt (refine' list_copyKT ?zF ?zN ?zl ?_ ?zz; (case zF => k_asm); (case zN => k_asm); (case zl => exact News.isTup (by k_asm) (by k_mem)); (case zz => (simp only [List.size_toArray, List.length_take, List.length_drop, List.length_cons, List.length_append, List.length_nil, sizeLine_eq]; omega))); intro D' c' h' F' N' l1; (try k_lt l1); (try k_sweep)))
local macro_rules | `(tactic| walk_at "subscriptTail Name UnaryOp ref int") => `(tactic| (k_here; k_dflt (refine item_last (by k_asm) (by k_mem) ?_ (by with_unfolding_all rfl) (by kmk_pure))))
local macro_rules | `(tactic| walk_at "subscriptTail Name Constant ref int") => `(tactic| (k_here; k_dflt (refine item_first (by k_asm) (by k_mem) ?_ (by with_unfolding_all rfl) (by kmk_pure))))
local macro_rules | `(tactic| walk_at "compareOp NotEq ref ref") => `(tactic| (k_here; refine Stop.go ?_))
theorem blk16 {w : World} {p : Program} {loose : List Str} {mean : ExcName → Option Value} {mg mb : Str → Option Value} {dp un : Nat} {gd : Option (List Code)} {L a : Addr} {ccd : Value} {outer : List Env} {A₀ : Around} {base h₀ : Heap} {m : Str → Option Value} {s : Shared} {E : Value → Shared → Prop} {src : Addr} {oc : Obj} {x y : Int} {t u : Tok} {ep : Nat} {rest : Led} {na ga va sa td tv ts tg : Addr} {nn : Nat} {ns gs zs ys : List Value} {k1 k2 : Tok} (hss : m (Str.ofString "sorted_ones") = some (.ref sa)) (hnn : m (Str.ofString "names") = some (.ref na)) (hgg : m (Str.ofString "given") = some (.ref ga)) (hvv : m (Str.ofString "values") = some (.ref va)) (hna : (na, W.listOf (List.toArray ns) nn) ∈ rest) (hnl : ns.length ≤ 3) (hga : (ga, LCg.lst gs) ∈ rest) (hgl : gs.length ≤ 3) (hva : (va, LCg.lst zs) ∈ rest) (hzl : zs.length ≤ 7) (hsa : (sa, W.listOf (List.toArray (.ref td :: .ref tv :: zs)) 0) ∈ rest) (htd : (td, TupO [.str (Str.ofString "tuple") k1, .ref ts]) ∈ rest) (htv : (tv, TupO [.str (Str.ofString "tuple") k2, .ref tg]) ∈ rest) (hts : (ts, TupO ys) ∈ rest) (htg : (tg, TupO gs) ∈ rest) (hsy : SymIn rest ys ns) (B : Below A₀ base outer h₀) (F : Fr h₀ L s.heap m) (X : (hd.heap_39 w.params).In h₀) (N : News h₀ L s.heap ((src, srcO x y t u ep) :: rest)) (T : Top p loose mean mg mb h₀) (hd' : dp + 40 < recursionLimit) (hu : un + 400 < cLine) (hoff : Off src rest) (hx : 0 ≤ x) (hy : 0 ≤ y) (hy' : y ≤ 2147483629) (hoc : oc.data = .cell (some (.ref src))) (hcell : (L + 1, oc) ∈ rest) :
    ∀ st16, lawBody[16]? = some st16 → wpAny (model PySem.Challenge.rw_pq0694_01.row.prog w) (lawA dp un gd L a ccd outer) (exec st16 (lawEnv L a ccd))
      (Nx fun s' => ∃ h' tk' x' y' t' u' rest', s' = { s with heap := h', toks := tk' } ∧ 0 ≤ x' ∧ 0 ≤ y' ∧ y' ≤ 2147483629 ∧ (∀ q ∈ rest, q ∈ rest') ∧ Off src rest' ∧ News h₀ L h' ((src, srcO x' y' t' u' ep) :: rest') ∧ Fr h₀ L h' (m) ∧ True) E s := by
  revert X
  k_fill
  intro X st16 e16
  cases e16
  replace F := (fr_self ((if_neg (by decide)).trans ((if_neg (by decide)).trans ((if_neg (by decide)).trans hvv))) (fr_self ((if_neg (by decide)).trans ((if_neg (by decide)).trans hgg)) (fr_self ((if_neg (by decide)).trans hnn) (fr_self hss F))))
  k_steps
  refine Stop.out ?_
  k_dflt (refine LCg.ListComp_U (F₀ := by k_asm) (by with_unfolding_all rfl) (by decide) (by rfl) (by decide) (by rfl) ?_)
  k_steps
  refine Stop.out ?_
  k_dflt (refine LCg.CompSrc.ledger (its := ns.toArray) (by rfl) (by k_asm) (by k_asm) (by k_mem) (by rw [List.size_toArray, sizeLine_eq]; omega) ?_)
  intro g6
  refine compRest_inv (InvS ns _) ?_ ?_ _ 0 [] _ (Nat.zero_add _) ⟨[], rfl, Above.nil, .nil⟩
  · rintro i us nw v I oI C oC D m2 h2 tk E' hi hP hO hx F2 N2 off ne ⟨tl, rfl, hAb, hsym⟩
    k_steps
    refine compEnd_of (tl := [_]) (by assumption) (by assumption) (above_base (b := _) ‹I < _ ∧ C < _ ∧ D < _ ∧ AllLt _ _› (List.forall_mem_cons.mpr ⟨Nat.le_refl _, List.forall_mem_nil _⟩)) off (Or.inr ⟨_, memR (memR (memT hna)), rfl, _, rfl⟩) ⟨_ :: tl, rfl, Above.cons ?_ hAb, ?_⟩
    · exact fun q hq => lt_of_allLt (‹I < _ ∧ C < _ ∧ D < _ ∧ AllLt _ _›).2.2.2 q (memR hq)
    · have e : ns.take (i + 1) = ns.take i ++ [v] := by
        rw [List.take_add_one, show ns[i]? = some v by simpa using hP]; rfl
      rw [e]
      exact (hsym.mono fun q hq => memT hq).snoc memH
  · rintro us nw ⟨tl, rfl, hAb, hsym⟩
    have hsl := hsym.len
    rw [List.size_toArray, List.take_of_length_le (Nat.le_refl _)] at hsl hsym
    unfold LCg.FinE
    intro D h3 tk F3 N3 o1
    dsimp only
    k_steps
    refine Stop.out ?_
    have N4 := (by assumption : News h₀ L _ (_ :: _ :: _ :: (tl ++ ((src, srcO x y t u ep) :: rest))))
    have e1 := SymIn.eqv (heldN N4) (heldN N4) (hsy.mono fun q hq => memT (memT (memT (memR (memT hq))))) (hsym.mono fun q hq => memT (memT (memT (memA hq))))
    k_dflt (refine ne_tups 2 (news_tuple N4 (by k_mem)) (news_tuple N4 (by k_mem)) (.cons (.str _ _ _ _) (.cons (.tup 1 (news_tuple N4 (by k_mem)) (news_tuple N4 (by k_mem)) e1) (.nil _))) (by first | ktr_units | ke_room) ?_)
    k_steps
    refine Stop.out ?_
    have N8 := (by assumption : News h₀ L _ (_ :: _ :: _ :: _ :: _ :: _ :: _ :: _ :: (tl ++ ((src, srcO x y t u ep) :: rest))))
    k_dflt (refine ne_lists 2 (xs := .ref tv :: zs) (News.isList N8 (by k_mem)) (News.isList N8 (by k_mem)) (.cons (.tup 1 (news_tuple N8 (by k_mem)) (news_tuple N8 (by k_mem)) (.cons (.str _ _ _ _) (.cons (.tup 0 (news_tuple N8 (by k_mem)) (news_tuple N8 (by k_mem)) (EqvAll.refl gs)) (.nil _)))) (EqvAll.refl zs)) (by first | ktr_units | ke_room) ?_)
    k_steps
    have N9 := (by assumption : News h₀ L _ (_ :: _ :: _ :: _ :: _ :: _ :: _ :: _ :: (tl ++ ((src, srcO x y t u ep) :: rest))))
    exact ⟨rfl, _, _, x, y, t, u, rest, rfl, hx, hy, hy', fun q hq => hq, hoff, fun q hq => N9 q (memT (memT (memT (memT (memT (memT (memT (memT (memR hq))))))))), fr_cong (by assumption) (by funext z; dsimp only [mSet]; (repeat' split) <;> first | rfl | (rename_i e; rw [e]; first | exact hss.symm | exact hnn.symm | exact hgg.symm | exact hvv.symm)), trivial⟩
theorem blk17 {w : World} {p : Program} {loose : List Str} {mean : ExcName → Option Value} {mg mb : Str → Option Value} {dp un : Nat} {gd : Option (List Code)} {L a : Addr} {ccd : Value} {outer : List Env} {A₀ : Around} {base h₀ : Heap} {m : Str → Option Value} {s : Shared} {E : Value → Shared → Prop} {src : Addr} {oc : Obj} {x y : Int} {t u : Tok} {ep : Nat} {rest : Led}  (B : Below A₀ base outer h₀) (F : Fr h₀ L s.heap m) (X : (hd.heap_39 w.params).In h₀) (N : News h₀ L s.heap ((src, srcO x y t u ep) :: rest)) (T : Top p loose mean mg mb h₀) (hd' : dp + 40 < recursionLimit) (hu : un + 400 < cLine) (hoff : Off src rest) (hx : 0 ≤ x) (hy : 0 ≤ y) (hy' : y ≤ 2147483629) (hoc : oc.data = .cell (some (.ref src))) (hcell : (L + 1, oc) ∈ rest) :
    ∀ st17, lawBody[17]? = some st17 → wpAny (model PySem.Challenge.rw_pq0694_01.row.prog w) (lawA dp un gd L a ccd outer) (exec st17 (lawEnv L a ccd))
      (Nx fun s' => ∃ h' tk' x' y' t' u' rest' nu tu, s' = { s with heap := h', toks := tk' } ∧ 0 ≤ x' ∧ 0 ≤ y' ∧ y' ≤ 2147483629 ∧ (∀ q ∈ rest, q ∈ rest') ∧ Off src rest' ∧ News h₀ L h' ((src, srcO x' y' t' u' ep) :: rest') ∧ Fr h₀ L h' (mSet "number" (.int nu tu) m) ∧ True) E s := by
  revert X
  k_fill
  intro X st17 e17
  cases e17
  k_steps
  refine Stop.out ?_
  k_dflt (refine' digit_use [] ?B ?F ?X ?N ?T ?o1 ?o2 hx hy hy' ?hm ?hm2 ?hk ?hd ?hu ?ret)
  case B => k_asm
  case F => k_asm
  case X => k_asm
  case N => k_asm
  case T => k_asm
  case o1 => exact List.forall_mem_nil _
  case o2 => exact hoff
  case hm => decide
  case hm2 => decide
  case hk => rfl
  case hd => ktr_room
  case hu => ktr_units
  case ret =>
    intro d1 td1 x1 y1 t1 u1 h1 tk1 hd10 hd11 hx1 hy1 hy1' F1 N1
    replace N1 := id N1
    dsimp only [List.cons_append, List.nil_append] at N1
    k_steps
    exact ⟨rfl, _, _, x1, y1, t1, u1, rest, _, _, rfl, hx1, hy1, hy1', fun q hq => hq, hoff, by assumption, by assumption, trivial⟩
end Mine

namespace Mine
open PySem.Calls PySem.Spec
def Rt (h₀ : Heap) (L : Addr) (s : Shared) (fl : Flow) (s' : Shared) : Prop := fl = .ret (.bool true) ∧ ∃ h' tk' m', s' = { s with heap := h', toks := tk' } ∧ Fr h₀ L h' m'
local macro_rules | `(tactic| k_mem) => `(tactic| (refine memL ?_; (repeat (first | exact memH | ktr_member | exact memA (by ktr_member) | refine memT ?_ | refine memR ?_)); done))
local macro_rules | `(tactic| walk_at "eval ListComp") => `(tactic| (k_here; refine Stop.go ?_))
local macro_rules | `(tactic| walk_at "exec Assign cons ListComp") => `(tactic| (k_here; refine Stop.go ?_))
local macro_rules | `(tactic| walk_at "call ref") => `(tactic| (k_here; (with_reducible first | show wpAny _ _ (call (Value.ref 263) _) _ _ _ | show wpAny _ _ (call (Value.ref 268) _) _ _ _ | show wpAny _ _ (call (Value.ref 275) _) _ _ _ | show wpAny _ _ (call (Value.ref 161) _) _ _ _); refine Stop.go ?_))
local macro_rules | `(tactic| walk_at "CompSrc") => `(tactic| (k_here; refine Stop.go ?_))
local macro_rules | `(tactic| k_room) => `(tactic| ktr_room)
local macro_rules | `(tactic| walk_at "subscriptTail Name Slice ref ref") => `(tactic| (k_here; (with_reducible show wpAny _ _ (subscriptTail _ (PySem.Expr.Slice _ _ none _) (Value.ref _) (Value.ref _)) _ _ _); k_dflt (refine' kmk_slice_lit ?zF ?zN ?zl ?zp ?zq ?ze ?_ ?zs ?zt ?zz; (case zF => k_asm); (case zN => k_asm); (case zl => kmk_list); (case zp => kmk_part); (case zq => kmk_part); (case ze => first | exact sl_last | exact sl_upto (by omega) | exact sl_from (by omega)); (case zs => with_unfolding_all rfl); (case zt => kmk_pure); (case zz => (simp only [List.size_toArray, List.length_take, List.length_cons, List.length_append, List.length_nil, sizeLine_eq]; omega))); intro D' h' F' N' l1; (try k_lt l1); (try k_sweep)))
local macro_rules | `(tactic| walk_at "call type:list") => `(tactic| (k_here; (with_reducible show wpAny _ _ (call (Value.type _) [Value.ref _]) _ _ _); k_dflt (refine' list_copyK ?zF ?zN ?zl ?_ ?zz; (case zF => k_asm); (case zN => k_asm); (case zl => exact News.isList (by k_asm) (by k_mem)); (case zz => (simp only [List.size_toArray, List.length_take, List.length_drop, List.length_cons, List.length_append, List.length_nil, sizeLine_eq]; omega))); intro D' c' h' F' N' l1; (try k_lt l1); (try k_sweep)))
local macro_rules | `(tactic| walk_at "call type:tuple") => `(tactic| (k_here; (with_reducible show wpAny _ _ (call (Value.type _) [Value.ref _]) _ _ _); k_dflt (refine' kde_tupleOf ?k1 ?k2 ?k3 ?k4 ?k5 ?_; (case k1 => k_asm); (case k2 => k_asm); (case k3 => exact News.isList (by k_asm) (by k_mem)); (case k4 => (simp only [List.size_toArray, List.length_take, List.length_drop]; omega)); (case k5 => exact rfl)); intro D' h' F' N' l1; (try k_lt l1); (try k_sweep)))
local macro_rules | `(tactic| walk_at "binaryOp Add ref ref") => `(tactic| (k_here; (with_reducible show wpAny _ _ (binaryOp _ (Value.ref _) (Value.ref _)) _ _ _); k_dflt (refine' kmk_add_lit ?zF ?zN ?za ?zb ?ze ?_ ?zz; (case zF => k_asm); (case zN => k_asm); (case za => kmk_list); (case zb => kmk_list); (case ze => exact add_e); (case zz => (simp only [List.toList_toArray, List.length_dropLast, List.length_take, List.length_drop, List.length_cons, List.length_append, List.length_nil, sizeLine_eq]; omega))); intro D' h' F' N' l1; (try k_lt l1); (try k_sweep)))
local macro_rules | `(tactic| walk_at "call builtin:len") => `(tactic| (k_here; (with_reducible show wpAny _ _ (call (Value.builtin "len") [Value.ref _]) _ _ _); k_dflt (first | (refine' len_tupN ?zN ?zm ?zf ?_; (case zN => k_asm); (case zm => k_mem); (case zf => ((try simp only [List.length_take, List.length_drop, List.length_cons, List.length_append, List.length_nil]); omega))) | (refine' len_lstN ?zN ?zm ?zf ?_; (case zN => k_asm); (case zm => k_mem); (case zf => ((try simp only [List.length_take, List.length_drop, List.length_cons, List.length_append, List.length_nil]); omega))))))
local macro_rules | `(tactic| walk_at "call type:list") => `(tactic| (k_here; (with_reducible show wpAny _ _ (call (Value.type _) [Value.ref _]) _ _ _); k_dflt (refine' list_copyKT ?zF ?zN ?zl ?_ ?zz; (case zF => k_asm); (case zN => k_asm); (case zl => exact News.isTup (by k_asm) (by k_mem)); (case zz => (simp only [List.size_toArray, List.length_take, List.length_drop, List.length_cons, List.length_append, List.length_nil, sizeLine_eq]; omega))); intro D' c' h' F' N' l1; (try k_lt l1); (try k_sweep)))
local macro_rules | `(tactic| walk_at "subscriptTail Name UnaryOp ref int") => `(tactic| (k_here; k_dflt (refine item_last (by k_asm) (by k_mem) ?_ (by with_unfolding_all rfl) (by kmk_pure))))
local macro_rules | `(tactic| walk_at "compareOp Eq ref ref") => `(tactic| (k_here; refine Stop.go ?_))
theorem blk18 {w : World} {p : Program} {loose : List Str} {mean : ExcName → Option Value} {mg mb : Str → Option Value} {dp un : Nat} {gd : Option (List Code)} {L a : Addr} {ccd : Value} {outer : List Env} {A₀ : Around} {base h₀ : Heap} {m : Str → Option Value} {s : Shared} {E : Value → Shared → Prop} {src : Addr} {oc : Obj} {x y : Int} {t u : Tok} {ep : Nat} {rest : Led} {c k hdv : Value} {nu : Int} {tu : Tok} {tb : Str} {dc dk : Dat} (hkk : m (Str.ofString "kind") = some k) (hnu : m (Str.ofString "number") = some (.int nu tu)) (hC : CalleeIn rest c k tb hdv dc dk) (B : Below A₀ base outer h₀) (F : Fr h₀ L s.heap m) (X : (hd.heap_39 w.params).In h₀) (N : News h₀ L s.heap ((src, srcO x y t u ep) :: rest)) (T : Top p loose mean mg mb h₀) (hd' : dp + 40 < recursionLimit) (hu : un + 400 < cLine) (hoff : Off src rest) (hx : 0 ≤ x) (hy : 0 ≤ y) (hy' : y ≤ 2147483629) (hoc : oc.data = .cell (some (.ref src))) (hcell : (L + 1, oc) ∈ rest) :
    ∀ st18, lawBody[18]? = some st18 → wpAny (model PySem.Challenge.rw_pq0694_01.row.prog w) (lawA dp un gd L a ccd outer) (exec st18 (lawEnv L a ccd))
      (Rt h₀ L s) E s := by
  revert X
  k_fill
  intro X st18 e18
  cases e18
  replace F := (fr_self ((if_neg (by decide)).trans hnu) (fr_self hkk F))
  have hk : ∃ ka kn w1 kt kv, k = .ref ka ∧ (ka, ({ cls := .type "tuple", data := .seq [.str w1 kt, kv].toArray kn } : Obj)) ∈ rest ∧ (w1 = Str.ofString "fn" ∨ w1 = Str.ofString "typeof") := by
    cases hC with
    | func hc1 hk1 =>
      obtain ⟨ka, kn, kv1, kv2, rfl, hkm, hk1, hk2⟩ := dat_tup2 hk1
      obtain ⟨kt1, rfl⟩ := dat_str hk1
      exact ⟨_, _, _, _, _, rfl, hkm, .inl rfl⟩
    | clos hc1 hh1 hk1 =>
      obtain ⟨ka, kn, kv1, kv2, rfl, hkm, hk1, hk2⟩ := dat_tup2 hk1
      obtain ⟨kt1, rfl⟩ := dat_str hk1
      exact ⟨_, _, _, _, _, rfl, hkm, .inl rfl⟩
    | type hc1 hc2 hk1 =>
      obtain ⟨ka, kn, kv1, kv2, rfl, hkm, hk1, hk2⟩ := dat_tup2 hk1
      obtain ⟨kt1, rfl⟩ := dat_str hk1
      exact ⟨_, _, _, _, _, rfl, hkm, .inr rfl⟩
  obtain ⟨ka, kn, w1, kt, kv, rfl, hkm, hw⟩ := hk
  rcases hw with rfl | rfl
  · k_steps
    refine Stop.out ?_
    k_dflt (refine eq_tups 0 (news_tuple (by k_asm) (by k_mem)) (news_tuple (by k_asm) (by k_mem)) (.cons (.str _ _ _ _) (.cons (.str _ _ _ _) (.cons (.int _ _ _ _) (.nil _)))) (by first | ktr_units | ke_room) ?_)
    k_steps
    refine Stop.out ?_
    k_dflt (refine eq_tups 0 (news_tuple (by k_asm) (by k_mem)) (news_tuple (by k_asm) (by k_mem)) (.cons (.str _ _ _ _) (.cons (.same _ _) (.nil _))) (by first | ktr_units | ke_room) ?_)
    k_steps
    exact ⟨rfl, _, _, _, rfl, by assumption⟩
  · k_steps
    refine Stop.out ?_
    k_dflt (refine eq_tups 0 (news_tuple (by k_asm) (by k_mem)) (news_tuple (by k_asm) (by k_mem)) (.cons (.str _ _ _ _) (.cons (.str _ _ _ _) (.cons (.int _ _ _ _) (.nil _)))) (by first | ktr_units | ke_room) ?_)
    k_steps
    refine Stop.out ?_
    k_dflt (refine eq_tups 0 (news_tuple (by k_asm) (by k_mem)) (news_tuple (by k_asm) (by k_mem)) (.cons (.str _ _ _ _) (.cons (.same _ _) (.nil _))) (by first | ktr_units | ke_room) ?_)
    k_steps
    exact ⟨rfl, _, _, _, rfl, by assumption⟩
end Mine

namespace Mine
open PySem.Calls PySem.Spec
local macro_rules | `(tactic| k_mem) => `(tactic| (refine memL ?_; (repeat (first | exact memH | ktr_member | exact memA (by ktr_member) | refine memT ?_ | refine memR ?_)); done))
local macro_rules | `(tactic| walk_at "eval ListComp") => `(tactic| (k_here; refine Stop.go ?_))
local macro_rules | `(tactic| walk_at "exec Assign cons ListComp") => `(tactic| (k_here; refine Stop.go ?_))
local macro_rules | `(tactic| walk_at "call ref") => `(tactic| (k_here; (with_reducible first | show wpAny _ _ (call (Value.ref 263) _) _ _ _ | show wpAny _ _ (call (Value.ref 268) _) _ _ _ | show wpAny _ _ (call (Value.ref 275) _) _ _ _ | show wpAny _ _ (call (Value.ref 161) _) _ _ _); refine Stop.go ?_))
local macro_rules | `(tactic| walk_at "CompSrc") => `(tactic| (k_here; refine Stop.go ?_))
local macro_rules | `(tactic| k_room) => `(tactic| ktr_room)
local macro_rules | `(tactic| is_list) => `(tactic| exact Fr.lst (by assumption) (Fr.lst (by assumption) (by assumption)))
local macro_rules | `(tactic| kmk_list) => `(tactic| exact Fr.lst (by assumption) (Fr.lst (by assumption) (by assumption)))
theorem blk0 {w : World} {p : Program} {loose : List Str} {mean : ExcName → Option Value} {mg mb : Str → Option Value} {dp un : Nat} {gd : Option (List Code)} {L a : Addr} {ccd : Value} {outer : List Env} {A₀ : Around} {base h₀ : Heap} {m : Str → Option Value} {s : Shared} {E : Value → Shared → Prop} {oc0 : Obj} {scr : Addr} {vs : List Value} {ns : List Int} (B : Below A₀ base outer h₀) (F : Fr h₀ L s.heap m) (X : (hd.heap_39 w.params).In h₀) (N0 : News h₀ L s.heap [(L + 1, oc0)]) (T : Top p loose mean mg mb h₀) (hd' : dp + 40 < recursionLimit) (hu : un + 400 < cLine)
    (hc0 : oc0.data = .cell none) (hL : h₀.IsList scr vs.toArray) (hI : IntsAre vs ns) (hlay : (PyData.list (List.map PyData.int ns)).layable0 = true) (hsc : m (Str.ofString "script") = some (.ref scr)) :
    ∀ st0, lawBody[0]? = some st0 → wpAny (model PySem.Challenge.rw_pq0694_01.row.prog w) (lawA dp un gd L a ccd outer) (exec st0 (lawEnv L a ccd))
      (Nx fun s' => ∃ h' tk' src x y t u ep rest hv oc, s' = { s with heap := h', toks := tk' } ∧ 0 ≤ x ∧ 0 ≤ y ∧ y ≤ 2147483629 ∧ Off src rest ∧ News h₀ L h' ((src, srcO x y t u ep) :: rest) ∧ oc.data = .cell (some (.ref src)) ∧ (L + 1, oc) ∈ rest ∧ Fr h₀ L h' (mSet "heap" (.ref hv) m)) E s := by
  revert X
  k_fill
  intro X st0 e0
  cases e0
  replace F := fr_self hsc F
  k_steps
  all_goals (
    have N9 := (by assumption : News h₀ L _ (_ :: _ :: _ :: _ :: (_, srcO _ _ _ _ 0) :: (L + 1, _) :: []))
    refine ⟨rfl, _, _, _, _, _, _, _, _, [(L + 1, _)], _, _, rfl, ?_, ?_, ?_, ?_, fun q hq => N9 q (memT (memT (memT (memT hq)))), by assumption, memH, fr_cong (by assumption) (by funext z; dsimp only [mSet]; (repeat' split) <;> first | rfl | (rename_i e; rw [e]; first | exact hsc.symm))⟩
    · first | assumption | exact Int.le_refl _ | omega
    · exact Int.add_nonneg (fmod_b (by decide)).1 (by decide)
    · exact Int.add_one_le_of_lt (fmod_b (by decide)).2
    · exact List.forall_mem_cons.mpr ⟨by refine neN ?_; dsimp only; omega, List.forall_mem_nil _⟩)
end Mine

namespace Mine
open PySem.Calls PySem.Spec
theorem wp_app {M : Model} {Γ : PySem.Ctx} {env : Env} {post : Flow → Pos → Shared → Prop} {exc : Value → Pos → Shared → Prop} {l2 : List Stmt} : ∀ {l1 : List Stmt} {p : Pos} {s : Shared},
    Sem.wp M Γ (execs l1 env) (fun f p' s' => match f with | .next => Sem.wp M Γ (execs l2 env) post exc p' s' | f => post f p' s') exc p s → Sem.wp M Γ (execs (l1 ++ l2) env) post exc p s
  | [], _, _, h => h
  | st :: l1, p, s, h => by
    rw [execs_cons, Sem.wp_bind'] at h
    show Sem.wp M Γ (execs (st :: (l1 ++ l2)) env) _ _ _ _
    rw [execs_cons, Sem.wp_bind']
    refine Sem.wp_mono M Γ _ (fun f p' s' h' => ?_) (fun _ _ _ h' => h') _ _ h
    cases f with
    | next => exact wp_app (l1 := l1) h'
    | _ => exact h'
theorem seqL {M : Model} {A : Around} {env : Env} {P : Shared → Prop} {Q : Flow → Shared → Prop} {E : Value → Shared → Prop} {l1 l2 : List Stmt} {s : Shared} (h : wpAny M A (execs l1 env) (Nx P) E s) (k : ∀ s', P s' → wpAny M A (execs l2 env) Q E s') : wpAny M A (execs (l1 ++ l2) env) Q E s := fun Γ p hΓ => by
  refine wp_app (Sem.wp_mono M Γ _ (fun f p' s' h' => ?_) (fun _ _ _ h' => h') _ _ (h Γ p hΓ))
  obtain ⟨rfl, hp⟩ := h'
  exact k s' hp Γ p' hΓ
theorem seq3 {A : Around} {M : Model} {env : Env} {P : Shared → Prop} {Q : Flow → Shared → Prop} {E : Value → Shared → Prop} {s : Shared} (i : Nat) (hi : i + 2 < lawBody.length) (h : ∀ st st' st'', lawBody[i]? = some st → lawBody[i + 1]? = some st' → lawBody[i + 2]? = some st'' → wpAny M A (execs [st, st', st''] env) (Nx P) E s) (k : ∀ s', P s' → wpAny M A (execs (lawBody.drop (i + 3)) env) Q E s') :
    wpAny M A (execs (lawBody.drop i) env) Q E s := by
  have h0 : i < lawBody.length := by omega
  have h1 : i + 1 < lawBody.length := by omega
  rw [List.drop_eq_getElem_cons h0, List.drop_eq_getElem_cons h1, List.drop_eq_getElem_cons hi]
  exact seqL (l1 := [_, _, _]) (h _ _ _ (List.getElem?_eq_getElem h0) (List.getElem?_eq_getElem h1) (List.getElem?_eq_getElem hi)) k
theorem seq1 {A : Around} {M : Model} {env : Env} {P : Shared → Prop} {Q : Flow → Shared → Prop} {E : Value → Shared → Prop} {s : Shared} (i : Nat) (hi : i < lawBody.length) (h : ∀ st, lawBody[i]? = some st → wpAny M A (exec st env) (Nx P) E s) (k : ∀ s', P s' → wpAny M A (execs (lawBody.drop (i + 1)) env) Q E s') :
    wpAny M A (execs (lawBody.drop i) env) Q E s := by
  rw [List.drop_eq_getElem_cons hi]
  refine wpAny_execs_cons (wpAny_mono (h _ (List.getElem?_eq_getElem hi)) (fun fl s' hf => ?_) fun _ _ e => e)
  obtain ⟨rfl, hp⟩ := hf
  exact k s' hp
theorem law_len : lawBody.length = 19 := by rfl
theorem law_all {w : World} {p : Program} {loose : List Str} {mean : ExcName → Option Value} {mg mb : Str → Option Value} {dp un : Nat} {gd : Option (List Code)} {L a : Addr} {ccd : Value} {outer : List Env} {A₀ : Around} {base h₀ : Heap} {m : Str → Option Value} {s : Shared} {E : Value → Shared → Prop} {src : Addr} {oc : Obj} {x y : Int} {t u : Tok} {ep : Nat} {rest : Led} {hv : Addr} (hhh : m (Str.ofString "heap") = some (.ref hv)) (B : Below A₀ base outer h₀) (F : Fr h₀ L s.heap m) (X : (hd.heap_39 w.params).In h₀) (N : News h₀ L s.heap ((src, srcO x y t u ep) :: rest)) (T : Top p loose mean mg mb h₀) (hd' : dp + 40 < recursionLimit) (hu : un + 400 < cLine) (hoff : Off src rest) (hx : 0 ≤ x) (hy : 0 ≤ y) (hy' : y ≤ 2147483629) (hoc : oc.data = .cell (some (.ref src))) (hcell : (L + 1, oc) ∈ rest) : wpAny (model PySem.Challenge.rw_pq0694_01.row.prog w) (lawA dp un gd L a ccd outer) (execs (lawBody.drop 1) (lawEnv L a ccd)) (Rt h₀ L s) E s := by
  refine seq1 1 (by rw [law_len]; decide) (blk2  B F X N T hd' hu hoff hx hy hy' hoc hcell) ?_
  rintro _ ⟨h1, tk1, x1, y1, t1, u1, r1, c, kd, tb, tt, hdv, dc, dk, rfl, hx1, hy1, hy1', sub1, hoff1, N1, F1, hC⟩
  have hcell1 := sub1 _ hcell
  refine seq3 2 (by rw [law_len]; decide) (blk3  B F1 X N1 T hd' hu hoff1 hx1 hy1 hy1' hoc hcell1) ?_
  rintro _ ⟨h2, tk2, x2, y2, t2, u2, r2, many, tm, fx, tf, b, rfl, hx2, hy2, hy2', sub2, hoff2, N2, F2, hm0, hm4, hb, hfx⟩
  have hcell2 := sub2 _ hcell1
  replace hC := hC.mono sub2
  have hfx0 : 0 ≤ fx := by
    rw [hfx]
    split
    · have := hb (by assumption); omega
    · omega
  have hfx4 : fx ≤ 4 := by
    rw [hfx]
    split <;> omega
  refine seq1 5 (by rw [law_len]; decide) (blk5 (by repeat (first | exact if_pos rfl | refine (if_neg (by decide)).trans ?_ | assumption)) (by repeat (first | exact if_pos rfl | refine (if_neg (by decide)).trans ?_ | assumption)) hfx0 hfx4 B F2 X N2 T hd' hu hoff2 hx2 hy2 hy2' hoc hcell2) ?_
  rintro _ ⟨h3, tk3, x3, y3, t3, u3, r3, ra, ys, vks, ps, rfl, hx3, hy3, hy3', sub3, hoff3, N3, F3, hra, hrows, hyl, hfy, hby⟩
  have hcell3 := sub3 _ hcell2
  replace hC := hC.mono sub3
  refine seq1 6 (by rw [law_len]; decide) (blk6 (by repeat (first | exact if_pos rfl | refine (if_neg (by decide)).trans ?_ | assumption)) hra hrows hyl B F3 X N3 T hd' hu hoff3 hx3 hy3 hy3' hoc hcell3) ?_
  rintro _ ⟨h4, tk4, x4, y4, t4, u4, r4, va, rfl, hx4, hy4, hy4', sub4, hoff4, N4, F4, hva⟩
  have hcell4 := sub4 _ hcell3
  replace hC := hC.mono sub4
  replace hra := sub4 _ hra
  replace hrows := hrows.mono sub4
  have hvl : (vks.map Prod.fst).length = ys.length := by rw [List.length_map, hrows.len.1]
  have hvl7 : (vks.map Prod.fst).length ≤ 7 := by rw [hvl]; exact hyl
  refine seq1 7 (by rw [law_len]; decide) (blk7 (by repeat (first | exact if_pos rfl | refine (if_neg (by decide)).trans ?_ | assumption)) (by repeat (first | exact if_pos rfl | refine (if_neg (by decide)).trans ?_ | assumption)) (by repeat (first | exact if_pos rfl | refine (if_neg (by decide)).trans ?_ | assumption)) hm0 hm4 B F4 X N4 T hd' hu hoff4 hx4 hy4 hy4' hoc hcell4) ?_
  rintro _ ⟨h5, tk5, x5, y5, t5, u5, r5, ma, rfl, hx5, hy5, hy5', sub5, hoff5, N5, F5, hM⟩
  have hcell5 := sub5 _ hcell4
  replace hC := hC.mono sub5
  replace hra := sub5 _ hra
  replace hrows := hrows.mono sub5
  replace hva := sub5 _ hva
  refine seq1 8 (by rw [law_len]; decide) (blk8 (by repeat (first | exact if_pos rfl | refine (if_neg (by decide)).trans ?_ | assumption)) (by repeat (first | exact if_pos rfl | refine (if_neg (by decide)).trans ?_ | assumption)) (by repeat (first | exact if_pos rfl | refine (if_neg (by decide)).trans ?_ | assumption)) hva hvl7 hM hm0 hm4 hb hfx B F5 X N5 T hd' hu hoff5 hx5 hy5 hy5' hoc hcell5) ?_
  rintro _ ⟨h6, tk6, x6, y6, t6, u6, r6, ta, told, tn, rfl, hx6, hy6, hy6', sub6, hoff6, N6, F6, hta, hT⟩
  have hcell6 := sub6 _ hcell5
  replace hC := hC.mono sub6
  replace hra := sub6 _ hra
  replace hrows := hrows.mono sub6
  replace hva := sub6 _ hva
  refine seq1 9 (by rw [law_len]; decide) (blk9 (by repeat (first | exact if_pos rfl | refine (if_neg (by decide)).trans ?_ | assumption)) (by repeat (first | exact if_pos rfl | refine (if_neg (by decide)).trans ?_ | assumption)) (by repeat (first | exact if_pos rfl | refine (if_neg (by decide)).trans ?_ | assumption)) (by repeat (first | exact if_pos rfl | refine (if_neg (by decide)).trans ?_ | assumption)) (by repeat (first | exact if_pos rfl | refine (if_neg (by decide)).trans ?_ | assumption)) hva hta hT hvl7 hm0 hm4 hb hfx (by rw [hvl]; exact hfy) (by rw [hvl]; exact hby) B F6 X N6 T hd' hu hoff6 hx6 hy6 hy6' hoc hcell6) ?_
  rintro _ ⟨h7, tk7, x7, y7, t7, u7, r7, rfl, hx7, hy7, hy7', sub7, hoff7, N7, F7, _⟩
  have hcell7 := sub7 _ hcell6
  replace hC := hC.mono sub7
  replace hra := sub7 _ hra
  replace hrows := hrows.mono sub7
  replace hva := sub7 _ hva
  replace hta := sub7 _ hta
  replace hT := hT.mono sub7
  refine seq1 10 (by rw [law_len]; decide) (blk10 (by repeat (first | exact if_pos rfl | refine (if_neg (by decide)).trans ?_ | assumption)) (by repeat (first | exact if_pos rfl | refine (if_neg (by decide)).trans ?_ | assumption)) (by repeat (first | exact if_pos rfl | refine (if_neg (by decide)).trans ?_ | assumption)) (by repeat (first | exact if_pos rfl | refine (if_neg (by decide)).trans ?_ | assumption)) hva hta hT hvl7 B F7 X N7 T hd' hu hoff7 hx7 hy7 hy7' hoc hcell7) ?_
  rintro _ ⟨h8, tk8, x8, y8, t8, u8, r8, rfl, hx8, hy8, hy8', sub8, hoff8, N8, F8, _⟩
  have hcell8 := sub8 _ hcell7
  replace hC := hC.mono sub8
  replace hra := sub8 _ hra
  replace hrows := hrows.mono sub8
  replace hva := sub8 _ hva
  refine seq1 11 (by rw [law_len]; decide) (blk11 (by repeat (first | exact if_pos rfl | refine (if_neg (by decide)).trans ?_ | assumption)) (by repeat (first | exact if_pos rfl | refine (if_neg (by decide)).trans ?_ | assumption)) (by repeat (first | exact if_pos rfl | refine (if_neg (by decide)).trans ?_ | assumption)) (by repeat (first | exact if_pos rfl | refine (if_neg (by decide)).trans ?_ | assumption)) (by repeat (first | exact if_pos rfl | refine (if_neg (by decide)).trans ?_ | assumption)) hC hva hra hrows hyl B F8 X N8 T hd' hu hoff8 hx8 hy8 hy8' hoc hcell8) ?_
  rintro _ ⟨h9, tk9, x9, y9, t9, u9, r9, rfl, hx9, hy9, hy9', sub9, hoff9, N9, F9, _⟩
  have hcell9 := sub9 _ hcell8
  replace hC := hC.mono sub9
  replace hra := sub9 _ hra
  replace hrows := hrows.mono sub9
  replace hva := sub9 _ hva
  refine seq1 12 (by rw [law_len]; decide) (blk12 (by repeat (first | exact if_pos rfl | refine (if_neg (by decide)).trans ?_ | assumption)) (by repeat (first | exact if_pos rfl | refine (if_neg (by decide)).trans ?_ | assumption)) (by repeat (first | exact if_pos rfl | refine (if_neg (by decide)).trans ?_ | assumption)) (by repeat (first | exact if_pos rfl | refine (if_neg (by decide)).trans ?_ | assumption)) hC B F9 X N9 T hd' hu hoff9 hx9 hy9 hy9' hoc hcell9) ?_
  rintro _ ⟨h10, tk10, x10, y10, t10, u10, r10, rfl, hx10, hy10, hy10', sub10, hoff10, N10, F10, _⟩
  have hcell10 := sub10 _ hcell9
  replace hC := hC.mono sub10
  replace hra := sub10 _ hra
  replace hrows := hrows.mono sub10
  replace hva := sub10 _ hva
  refine seq1 13 (by rw [law_len]; decide) (blk13  B F10 X N10 T hd' hu hoff10 hx10 hy10 hy10' hoc hcell10) ?_
  rintro _ ⟨h11, tk11, x11, y11, t11, u11, r11, na, ns, rfl, hx11, hy11, hy11', sub11, hoff11, N11, F11, hna, hnl⟩
  have hcell11 := sub11 _ hcell10
  replace hC := hC.mono sub11
  replace hra := sub11 _ hra
  replace hrows := hrows.mono sub11
  replace hva := sub11 _ hva
  refine seq1 14 (by rw [law_len]; decide) (blk14 (by repeat (first | exact if_pos rfl | refine (if_neg (by decide)).trans ?_ | assumption)) hna hnl B F11 X N11 T hd' hu hoff11 hx11 hy11 hy11' hoc hcell11) ?_
  rintro _ ⟨h12, tk12, x12, y12, t12, u12, r12, ga, gs, rfl, hx12, hy12, hy12', sub12, hoff12, N12, F12, hga, hgl⟩
  have hcell12 := sub12 _ hcell11
  replace hC := hC.mono sub12
  replace hra := sub12 _ hra
  replace hrows := hrows.mono sub12
  replace hva := sub12 _ hva
  replace hna := sub12 _ hna
  refine seq1 15 (by rw [law_len]; decide) (blk15 (by repeat (first | exact if_pos rfl | refine (if_neg (by decide)).trans ?_ | assumption)) (by repeat (first | exact if_pos rfl | refine (if_neg (by decide)).trans ?_ | assumption)) (by repeat (first | exact if_pos rfl | refine (if_neg (by decide)).trans ?_ | assumption)) hna hnl hga hgl hva hvl7 B F12 X N12 T hd' hu hoff12 hx12 hy12 hy12' hoc hcell12) ?_
  rintro _ ⟨h13, tk13, x13, y13, t13, u13, r13, sa, td, tv, ts, tg, us, k1, k2, rfl, hx13, hy13, hy13', sub13, hoff13, N13, F13, hsa, htd, htv, hts, htg, hsy⟩
  have hcell13 := sub13 _ hcell12
  replace hC := hC.mono sub13
  replace hra := sub13 _ hra
  replace hrows := hrows.mono sub13
  replace hva := sub13 _ hva
  replace hna := sub13 _ hna
  replace hga := sub13 _ hga
  refine seq1 16 (by rw [law_len]; decide) (blk16 (by repeat (first | exact if_pos rfl | refine (if_neg (by decide)).trans ?_ | assumption)) (by repeat (first | exact if_pos rfl | refine (if_neg (by decide)).trans ?_ | assumption)) (by repeat (first | exact if_pos rfl | refine (if_neg (by decide)).trans ?_ | assumption)) (by repeat (first | exact if_pos rfl | refine (if_neg (by decide)).trans ?_ | assumption)) hna hnl hga hgl hva hvl7 hsa htd htv hts htg hsy B F13 X N13 T hd' hu hoff13 hx13 hy13 hy13' hoc hcell13) ?_
  rintro _ ⟨h14, tk14, x14, y14, t14, u14, r14, rfl, hx14, hy14, hy14', sub14, hoff14, N14, F14, _⟩
  have hcell14 := sub14 _ hcell13
  replace hC := hC.mono sub14
  replace hra := sub14 _ hra
  replace hrows := hrows.mono sub14
  replace hva := sub14 _ hva
  refine seq1 17 (by rw [law_len]; decide) (blk17  B F14 X N14 T hd' hu hoff14 hx14 hy14 hy14' hoc hcell14) ?_
  rintro _ ⟨h15, tk15, x15, y15, t15, u15, r15, nu, tu, rfl, hx15, hy15, hy15', sub15, hoff15, N15, F15, _⟩
  have hcell15 := sub15 _ hcell14
  replace hC := hC.mono sub15
  have hd18 : lawBody.drop 18 = lawBody[18]'(by rw [law_len]; decide) :: lawBody.drop 19 := List.drop_eq_getElem_cons (by rw [law_len]; decide)
  rw [hd18]
  refine wpAny_execs_cons (wpAny_mono (blk18 (by repeat (first | exact if_pos rfl | refine (if_neg (by decide)).trans ?_ | assumption)) (by repeat (first | exact if_pos rfl | refine (if_neg (by decide)).trans ?_ | assumption)) hC B F15 X N15 T hd' hu hoff15 hx15 hy15 hy15' hoc hcell15 _ (List.getElem?_eq_getElem (by rw [law_len]; decide))) (fun fl s' hf => ?_) fun _ _ e => e)
  obtain ⟨rfl, h', tk', m', rfl, Fz⟩ := hf
  exact ⟨rfl, h', tk', m', rfl, Fz⟩
end Mine

namespace Mine
open PySem.Calls PySem.Spec
theorem law_run {w : World} {p : Program} {loose : List Str} {mean : ExcName → Option Value} {mg mb : Str → Option Value} {dp un : Nat} {gd : Option (List Code)} {L a : Addr} {ccd : Value} {outer : List Env} {A₀ : Around} {base h₀ : Heap} {m : Str → Option Value} {s : Shared} {E : Value → Shared → Prop} {oc0 : Obj} {scr : Addr} {vs : List Value} {ns : List Int} (B : Below A₀ base outer h₀) (F : Fr h₀ L s.heap m) (X : (hd.heap_39 w.params).In h₀) (N0 : News h₀ L s.heap [(L + 1, oc0)]) (T : Top p loose mean mg mb h₀) (hd' : dp + 40 < recursionLimit) (hu : un + 400 < cLine)
    (hc0 : oc0.data = .cell none) (hL : h₀.IsList scr vs.toArray) (hI : IntsAre vs ns) (hlay : (PyData.list (List.map PyData.int ns)).layable0 = true) (hsc : m (Str.ofString "script") = some (.ref scr)) :
    wpAny (model PySem.Challenge.rw_pq0694_01.row.prog w) (lawA dp un gd L a ccd outer) (execs lawBody (lawEnv L a ccd)) (Rt h₀ L s) E s := by
  have e : lawBody = lawBody.drop 0 := rfl
  rw [e]
  refine seq1 0 (by rw [law_len]; decide) (blk0 B F X N0 T hd' hu hc0 hL hI hlay hsc) ?_
  rintro _ ⟨h1, tk1, src, x, y, t, u, ep, rest, hv, oc, rfl, hx, hy, hy', hoff, N1, hoc, hcell, F1⟩
  refine wpAny_mono (law_all (if_pos rfl) B F1 X N1 T hd' hu hoff hx hy hy' hoc hcell) (fun fl s' hf => ?_) fun _ _ e => e
  obtain ⟨rfl, h', tk', m', rfl, Fz⟩ := hf
  exact ⟨rfl, h', tk', m', rfl, Fz⟩
theorem law_end {M : Model} {A : Around} {tr : Sem Flow} {h₀ : Heap} {L : Addr} {s : Shared} {Q : Flow → Shared → Prop} {E : Value → Shared → Prop} (h : wpAny M A tr (Rt h₀ L s) E s) (k : ∀ h' tk' m', Fr h₀ L h' m' → Q (.ret (.bool true)) { s with heap := h', toks := tk' }) : wpAny M A tr Q E s :=
  wpAny_mono h (fun fl s' hf => by obtain ⟨rfl, h', tk', m', rfl, Fz⟩ := hf; exact k _ _ _ Fz) fun _ _ e => e
end Mine
theorem PySem.Challenge.cw_pq0694_01_holds : PySem.Challenge.rw_pq0694_01.Holds :=
  Mine.hd ⟨Mine.left0, by
  k_go0
  rename_i K0 hDf h1 tk1 F oc0 hcl N0 X0
  refine Mine.law_end (Mine.law_run K0 F (by assumption) N0 (by assumption) (by decide) (by decide) (hcl.trans (by with_unfolding_all rfl)) (by assumption) (by assumption) (by assumption) (by with_unfolding_all rfl)) (fun h' tk' m' Fz => ?_)
  dsimp only
  wrow_close⟩
