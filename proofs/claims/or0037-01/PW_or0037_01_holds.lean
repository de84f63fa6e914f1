import PyProof.Rows.All
import Wide.All
import OpenK.AllK
import Wide.FinOn
import Lean
import PySem.Challenge.RW_or0037_01
open PySem PySem.W PySem.Calls PyProof.Rows
set_option Elab.async false
set_option maxRecDepth 100000
set_option maxHeartbeats 8000000
namespace Mine

/-! ## part Hd -/


/-- a run of the top over a tree of objects, its step and its check handed in -/
def topT (f : SharedT → Thread → Option (SharedT × Thread)) (g : Thread → Bool) : Nat → SharedT → Thread → Option SharedT
  | 0, _, _ => none
  | n + 1, s, t => match through t with
    | true => some s
    | false => match g t with
      | false => none
      | true => match f s t with
        | some (s', t') => topT f g n s' t'
        | none => none
theorem topT_of {tb : String → Option Builtin} {p : Program} {w : World} {n₀ : Nat} {ann : Option Value} : ∀ {n : Nat} {s s' : SharedT} {t : Thread}, topT (stepT (denote tb) p w) (stepOk n₀ ann) n s t = some s' → topRun tb p w n₀ ann n s.abs t = some s'.abs
  | 0, _, _, _, h => by cases h
  | n + 1, s, s', t, h => by
    unfold topT at h
    unfold topRun
    cases he : through t with
    | true => rw [he] at h; cases h; rfl
    | false =>
      rw [he] at h
      cases hk : stepOk n₀ ann t with
      | false => rw [hk] at h; cases h
      | true =>
        rw [hk] at h
        cases hs : stepT (denote tb) p w s t with
        | none => rw [hs] at h; cases h
        | some r => obtain ⟨s₂, t₂⟩ := r; rw [hs] at h; rw [stepT_spec hs]; exact topT_of h
def grow : List Obj → Nat → BT → BT
  | [], _, t => t
  | o :: l, n, t => grow l (n + 1) (t.ins n o)
noncomputable def bootT (w : World) (os : OsState) : SharedT := ⟨grow (boot_heap w.params).objs.toList 0 .nil, (boot_heap w.params).objs.size, (boot_heap w.params).life, Array.mk [], boot_drawn, boot_toks, os⟩
theorem bootT_abs (w : World) (os : OsState) : (bootT w os).abs = ⟨boot_heap w.params, Array.mk [], boot_drawn, boot_toks, os⟩ := by kernel_rfl
/-- the head from one run over a tree; F, G, O: the step, its check and the look, in any reading that is equal to them -/
theorem left_of {p q : Program} {loose : List Str} {Xt : Shared → Bool} {α : Type} {Yf : Shared → α} {Ya : World → α} {N : Nat} {g0 : Bool} {n₀ : Nat} {ann : Option Value}
    {F : Program → World → SharedT → Thread → Option (SharedT × Thread)} {G : Nat → Option Value → Thread → Bool} {O : _}
    (eF : stepT (denote treeTable) = F) (eG : stepOk = G) (eO : openSeen = O)
    (b : ∀ w : World, (fencedOpening treeTable p w N).map (fun s => (s.heap, s.gens, s.drawn, s.toks)) = some (boot_heap w.params, Array.mk [], boot_drawn, boot_toks))
    (z : ∀ w : World, ((boot_heap w.params).isNs mainGlobals, (boot_heap w.params).objs.size, (boot_heap w.params).nsMap mainGlobals "__annotations__") = (true, n₀, ann))
    (h : ∀ w : World, (fun os => (topT (F p w) (G n₀ ann) N (bootT w os) (topStub p)).map
        (fun s => (staticsOk (importedModules p.main.body) (boot_heap w.params) s.abs.heap && namesBound p s.abs.heap && gensDone s.abs && laidKept (boot_heap w.params) s.abs.heap,
          O q loose (importedModules p.main.body) Xt g0 s.abs, Yf s.abs))) = fun _ => some (true, openGood q loose, Ya w)) : LeftO p q loose Xt Yf Ya N g0 := fun w => by
  subst eF eG eO
  obtain ⟨⟨hp, gs, d, k, os⟩, e, e'⟩ := Option.map_eq_some_iff.mp (b w)
  obtain ⟨rfl, rfl, rfl, rfl⟩ : hp = boot_heap w.params ∧ gs = Array.mk [] ∧ d = boot_drawn ∧ k = boot_toks := by simpa using e'
  obtain ⟨z1, z2, z3⟩ : _ ∧ _ ∧ _ := by simpa only [Prod.mk.injEq] using z w
  obtain ⟨s, hs, h⟩ := Option.map_eq_some_iff.mp (congrFun (h w) os)
  obtain ⟨l1, l2, l3⟩ : _ ∧ _ ∧ _ := by simpa only [Prod.mk.injEq] using h
  have r := topT_of hs
  rw [bootT_abs] at r
  have t : topFrom treeTable p w N ⟨boot_heap w.params, Array.mk [], boot_drawn, boot_toks, os⟩ = some s.abs := by
    unfold topFrom
    dsimp only
    rw [z1, z2, z3, r]
    show (match staticsOk (importedModules p.main.body) (boot_heap w.params) s.abs.heap && namesBound p s.abs.heap && gensDone s.abs && laidKept (boot_heap w.params) s.abs.heap with | true => _ | false => _) = _
    rw [l1]
  unfold openEnds
  rw [e]
  show (topFrom treeTable p w N _).map _ = _
  rw [t]
  exact congrArg some (Prod.ext l2 l3)
/-- the rows of the text that bind a name for good -/
def pick (l : List Stmt) (a0 a1 a2 a3 a4 a5 a6 a7 a8 a9 a10 a11 a12 a13 a14 a15 a16 a17 a18 a19 a20 a21 a22 : Stmt) (_ : l = [a0, a1, a2, a3, a4, a5, a6, a7, a8, a9, a10, a11, a12, a13, a14, a15, a16, a17, a18, a19, a20, a21, a22]) : List Stmt := [a1, a2, a4, a5, a6, a7, a8, a9, a10, a11, a12, a13, a14, a15, a16, a18, a19, a20, a21, a22]
noncomputable def vw : Program := { PySem.Challenge.pw_or0037_01 with main := { PySem.Challenge.pw_or0037_01.main with body := pick PySem.Challenge.pw_or0037_01.main.body _ _ _ _ _ _ _ _ _ _ _ _ _ _ _ _ _ _ _ _ _ _ _ rfl } }
/-- the head at once, not in pieces (the pieces' twins make the compiled file too large): over a tree, by the library's quicker readings where they stand -/
local macro_rules | `(tactic| o_head $H) => `(tactic| (
  refine holds_open (q := Mine.vw) (loose := [Str.ofString "PostError"]) (Xt := fun s => xlAt Mine.vw [] s && recOk (RowW.records (PySem.Challenge.rw_or0037_01.row.toRowW)) s) (XP := XL Mine.vw []) (Yf := Hook.obs $H) (Ya := Hook.val $H) (YP := Hook.says $H) (N := 2982) ?hl (Hook.of $H) (Hook.keeps $H) (fun s e => xl_of s (Bool.and_eq_true_iff.mp e).1) XL.keeps (by rfl) (by rfl) (by rfl) (fun s e => recFacts_of (Bool.and_eq_true_iff.mp e).2) (by rfl) (by first | assumption | decide +kernel) (by decide +kernel) ⟨rfl, rfl, rfl, rfl, rfl, by decide +kernel⟩ ?hw ?hc
  (case hl => first
    | exact left_of (n₀ := 11) (ann := some (.ref 6)) (show stepT (denote treeTable) = PySem.W.Fast.tw10156331382660048174 (PySem.W.Fast.tw11892475500146522536 PySem.W.Fast.tw14364793385576792824) by rw [PySem.W.Fast.te10156331382660048174, PySem.W.Fast.te11892475500146522536, PySem.W.Fast.te14364793385576792824])
        PySem.W.Fast.te6613529449190102663 PySem.W.Fast.te4187177175401517315 (boot_open (by rfl) (by decide) (fun _ => by rfl)) (by intro w; kernel_rfl) (by intro w; kernel_rfl)
    | (intro w; kernel_rfl))))
open_top hd for PySem.Challenge.rw_or0037_01

/-! ## part Lay -/

/-! ## what is known of the heap -/
abbrev View := Addr → Option Obj
theorem upd_ex (V : View) (a : Addr) (o : Obj) : ∃ f : View, ∀ b, f b = if b = a then some o else V b := ⟨_, fun _ => rfl⟩
theorem hide_ex (V : View) (a : Addr) : ∃ f : View, ∀ b, f b = if b = a then none else V b := ⟨_, fun _ => rfl⟩
/-- chosen, so that nothing unfolds it -/
noncomputable def upd (V : View) (a : Addr) (o : Obj) : View := Classical.choose (upd_ex V a o)
noncomputable def hide (V : View) (a : Addr) : View := Classical.choose (hide_ex V a)
theorem upd_at {V : View} {a b : Addr} {o : Obj} : upd V a o b = if b = a then some o else V b := Classical.choose_spec (upd_ex V a o) b
theorem hide_eq {V : View} {a b : Addr} : hide V a b = if b = a then none else V b := Classical.choose_spec (hide_ex V a) b
def Le (V V' : View) : Prop := ∀ a o, V a = some o → V' a = some o

structure Gone (V : View) (a : Addr) : Prop where
  eq : V a = none
theorem Le.refl (V : View) : Le V V := fun _ _ e => e
theorem Le.trans {V V' V'' : View} (x : Le V V') (y : Le V' V'') : Le V V'' := fun a o e => y a o (x a o e)
theorem Le.at {V V' : View} {a : Addr} {o : Obj} (h : Le V V') (e : V a = some o) : V' a = some o := h a o e
theorem upd_same {V : View} {a : Addr} {o : Obj} : upd V a o a = some o := by simp [upd_at]
theorem upd_ne {V : View} {a b : Addr} {o o' : Obj} (hb : b ≠ a) (h : V b = some o') : upd V a o b = some o' := by simp [upd_at, hb, h]
theorem ne_fresh {V : View} {a b : Addr} {o : Obj} (hf : Gone V a) (h : V b = some o) : b ≠ a := by rintro rfl; rw [hf.eq] at h; cases h
theorem upd_keep {V : View} {a b : Addr} {o o' : Obj} (hf : Gone V a) (h : V b = some o') : upd V a o b = some o' := upd_ne (ne_fresh hf h) h
theorem Le.upd {V V' : View} {a : Addr} {o : Obj} (hf : Gone V a) (h : Le V V') : Le V (upd V' a o) := fun b ob e => upd_ne (ne_fresh hf e) (h b ob e)
theorem Gone.of_le {V V' : View} {a : Addr} (h : Le V V') (e : Gone V' a) : Gone V a := by
  refine ⟨?_⟩
  cases hq : V a with
  | none => rfl
  | some o => have := h a o hq; rw [e.eq] at this; cases this
theorem Gone.upd {V : View} {a b : Addr} {o : Obj} (hb : b ≠ a) (h : Gone V b) : Gone (upd V a o) b := ⟨by simp [upd_at, hb, h.eq]⟩

/-! ## the rest of the state, that nobody touches -/
structure Rest where
  F : View
  gens : Array GenState
  os : OsState

structure St (R : Rest) (V : View) (L : Addr) (m : Str → Option Value) (s : Shared) : Prop where
  ns : s.heap.Ns L m
  has : ∀ a o, V a = some o → s.heap.get? a = some o
  off : V L = none
  keep : ∀ a o, R.F a = some o → s.heap.get? a = some o
  disj : ∀ a o, V a = some o → R.F a = none
  offF : R.F L = none
  gens : s.gens = R.gens
  os : s.os = R.os

def setm (m : Str → Option Value) (x : Str) (v : Value) : Str → Option Value := fun y => if y = x then some v else m y
theorem setm_same {m : Str → Option Value} {x : Str} {v : Value} : setm m x v x = some v := by simp [setm]
theorem setm_ne {m : Str → Option Value} {x y : Str} {v : Value} {r : Option Value} (h : y ≠ x) (e : m y = r) : setm m x v y = r := by simp [setm, h, e]

section
variable {R : Rest} {V V' : View} {L d : Addr} {m : Str → Option Value} {s : Shared} {o o' : Obj} {h' : Heap} {tk : Nat}

theorem St.keeps (σ : St R V L m s) (k : ∀ b o, s.heap.get? b = some o → h'.get? b = some o) : St R V L m { s with heap := h', toks := tk } :=
  ⟨σ.ns.keeps k, fun a o e => k a o (σ.has a o e), σ.off, fun a o e => k a o (σ.keep a o e), σ.disj, σ.offF, σ.gens, σ.os⟩
theorem St.tok (σ : St R V L m s) : St R V L m { s with toks := tk } := ⟨σ.ns, σ.has, σ.off, σ.keep, σ.disj, σ.offF, σ.gens, σ.os⟩
theorem St.heapEq {h : Heap} (σ : St R V L m s) (e : s.heap = h) : St R V L m { s with heap := h, toks := tk } := by subst e; exact σ.tok
theorem St.fresh (σ : St R V L m s) : Gone V s.heap.objs.size := by
  refine ⟨?_⟩
  cases hq : V s.heap.objs.size with
  | none => rfl
  | some o => exact absurd (Heap.lt_size (σ.has _ _ hq)) (Nat.lt_irrefl _)
theorem St.freshF (σ : St R V L m s) : R.F s.heap.objs.size = none := by
  cases hq : R.F s.heap.objs.size with
  | none => rfl
  | some o => exact absurd (Heap.lt_size (σ.keep _ _ hq)) (Nat.lt_irrefl _)
theorem St.ltV (σ : St R V L m s) {a : Addr} (h : V a = some o) : a < s.heap.objs.size := Heap.lt_size (σ.has _ _ h)
theorem St.neL (σ : St R V L m s) {a : Addr} (h : V a = some o) : a ≠ L := by rintro rfl; rw [σ.off] at h; cases h
theorem St.weaken (σ : St R V L m s) (h : Le V' V) : St R V' L m s :=
  ⟨σ.ns, fun a o e => σ.has a o (h a o e), (Gone.of_le h ⟨σ.off⟩).eq, σ.keep, fun a o e => σ.disj a o (h a o e), σ.offF, σ.gens, σ.os⟩

theorem St.extBut (σ : St R V L m s) (x : Heap.ExtBut d s.heap h') (hV : Gone V d) (hF : R.F d = none) (hL : d ≠ L) : St R V L m { s with heap := h', toks := tk } :=
  ⟨σ.ns.extBut x hL.symm, fun a o e => x a o (ne_fresh hV e) (σ.has a o e), σ.off, fun a o e => x a o (by rintro rfl; rw [hF] at e; cases e) (σ.keep a o e), σ.disj, σ.offF, σ.gens, σ.os⟩

theorem St.setObj (σ : St R V L m s) (x : Heap.ExtBut d s.heap h') (ho : h'.get? d = some o') (hd : d ≠ L) (hF : R.F d = none) : St R (upd V d o') L m { s with heap := h', toks := tk } := by
  refine ⟨σ.ns.extBut x hd.symm, fun a oa e => ?_, ?_, fun a oa e => x a oa (by rintro rfl; rw [hF] at e; cases e) (σ.keep a oa e), fun a oa e => ?_, σ.offF, σ.gens, σ.os⟩
  · by_cases h : a = d
    · subst h; rw [upd_same] at e; cases e; exact ho
    · simp only [upd_at, if_neg h] at e; exact x a oa h (σ.has a oa e)
  · simp only [upd_at, if_neg hd.symm]; exact σ.off
  · by_cases h : a = d
    · subst h; exact hF
    · simp only [upd_at, if_neg h] at e; exact σ.disj a oa e

theorem St.push (σ : St R V L m s) (hf : o.isFreed = false := by rfl) : St R (upd V s.heap.objs.size o) L m { s with heap := s.heap.push o, toks := tk } :=
  σ.setObj (d := s.heap.objs.size) (fun _ _ _ e => Heap.get?_push_of_some _ e) (Heap.get?_push_size _ hf) (Nat.ne_of_gt σ.ns.lt) σ.freshF

theorem St.update (σ : St R V L m s) {f : Obj → Obj} (hV : V d = some o) (e : f o = o') (hf : o'.isFreed = false) : St R (upd V d o') L m { s with heap := s.heap.update d f, toks := tk } :=
  σ.setObj (Heap.SameBut.update ..).extBut (by rw [Heap.get?_update_self _ (σ.has _ _ hV) (by rw [e]; exact hf), e]) (σ.neL hV) (σ.disj _ _ hV)

theorem St.sameBut (σ : St R V L m s) (hs : Heap.SameBut d s.heap h') (hV : V d = some o) (ho : h'.get? d = some o') : St R (upd V d o') L m { s with heap := h', toks := tk } :=
  σ.setObj hs.extBut ho (σ.neL hV) (σ.disj _ _ hV)

theorem St.setLocals (σ : St R V L m s) {m' : Str → Option Value} (hn : h'.Ns L m') (hs : Heap.SameBut L s.heap h') : St R V L m' { s with heap := h', toks := tk } :=
  ⟨hn, fun a o e => (hs.2 a (σ.neL e)).trans (σ.has a o e), σ.off, fun a o e => (hs.2 a (by rintro rfl; rw [σ.offF] at e; cases e)).trans (σ.keep a o e), σ.disj, σ.offF, σ.gens, σ.os⟩
end

/-! ## what stands at the top -/
noncomputable abbrev Kx (w : World) : Frag := Mine.hd.heap_39 w.params
noncomputable abbrev Px : Program := Mine.vw
noncomputable abbrev looseX : List Str := looseW Px [Str.ofString "PostError"]

structure Gd (w : World) (R : Rest) : Prop where
  top : ∃ (hb : Heap) (mg mb : Str → Option Value), (∀ a o, hb.get? a = some o → R.F a = some o) ∧ TopRead Px looseX mg mb hb ∧ (Kx w).In hb

section
variable {w : World} {R : Rest} {V : View} {L : Addr} {m : Str → Option Value} {s : Shared}
theorem Gd.topRead (G : Gd w R) (σ : St R V L m s) : ∃ mg mb, TopRead Px looseX mg mb s.heap := by
  obtain ⟨hb, mg, mb, h1, T, X⟩ := G.top
  exact ⟨mg, mb, T.keeps fun a o e => σ.keep a o (h1 a o e)⟩
theorem Gd.K (G : Gd w R) (σ : St R V L m s) : (Kx w).In s.heap := by
  obtain ⟨hb, mg, mb, h1, T, X⟩ := G.top
  exact X.keeps fun a o e => σ.keep a o (h1 a o e)
theorem Gd.nolimit (G : Gd w R) (σ : St R V L m s) : s.heap.NoLimit := by
  obtain ⟨mg, mb, T⟩ := G.topRead σ; exact T.nolimit
end

/-! ## part Rul -/

def h0 : Heap := ⟨#[], {}⟩
theorem h0_none (a : Addr) : h0.get? a = none := by simp [h0, Heap.get?]

section
variable {R : Rest} {V : View} {L : Addr} {m : Str → Option Value} {s : Shared}
theorem St.fr (σ : St R V L m s) : Fr h0 L s.heap m := ⟨σ.ns, fun b o e => absurd e (by rw [h0_none]; exact fun q => nomatch q), Nat.zero_le _⟩
theorem St.news1 (σ : St R V L m s) {a : Addr} {o : Obj} (h : V a = some o) : News h0 L s.heap [(a, o)] := fun p hp => by
  rw [List.mem_singleton.mp hp]; exact ⟨σ.has a o h, σ.neL h, h0_none _⟩
theorem St.isList (σ : St R V L m s) {l : Addr} {its : Array Value} {n : Nat} (h : V l = some (listOf its n)) : s.heap.IsList l its := ⟨_, σ.has _ _ h, rfl, n, rfl⟩
theorem St.isL (σ : St R V L m s) {l : Addr} {its : Array Value} {n : Nat} (h : V l = some (listOf its n)) : IsL s.heap l its n := σ.has _ _ h
end

/-! ## names -/
section
variable {M : Model} {w : World} {A : Around} {E : Value → Shared → Prop} {R : Rest} {V : View} {L c : Addr} {m : Str → Option Value} {s : Shared} {env : Env} {x : Str} {pos : Pos} {v : Value} {o : Obj} {Q : Value → Shared → Prop}

theorem nmL (σ : St R V L m s) (hv : m x = some v) (h : Q v s) (hL : env.locals = L := by rfl) (hk : env.scope.kind = .function := by rfl)
    (hl : env.kindOf x = some .local := by kernel_rfl) (hd : (x == ("__debug__" : Str)) = false := by decide +kernel) : wpAny M A (eval (.Name x pos) env) Q E s :=
  wpAny_Name (wpAny_loadName_local hk hl (hL ▸ σ.ns) hv h) hd
theorem nmC (σ : St R V L m s) (hc : env.cells.lookup x = some c) (hV : V c = some o) (ho : o.data = .cell (some v)) (h : Q v s) (hk : env.scope.kind = .function := by rfl)
    (hl : env.kindOf x = some .cell := by rfl) (hd : (x == ("__debug__" : Str)) = false := by decide +kernel) : wpAny M A (eval (.Name x pos) env) Q E s :=
  wpAny_Name (wpAny_loadName_cell hk hl hc ⟨o, σ.has _ _ hV, ho⟩ h) hd
theorem nmF (σ : St R V L m s) (hc : env.cells.lookup x = some c) (hV : V c = some o) (ho : o.data = .cell (some v)) (h : Q v s) (hk : env.scope.kind = .function := by rfl)
    (hl : env.kindOf x = some .free := by rfl) (hn : (x == ("__classdict__" : Str)) = false := by decide) (hd : (x == ("__debug__" : Str)) = false := by decide +kernel) : wpAny M A (eval (.Name x pos) env) Q E s :=
  wpAny_Name (wpAny_loadName_free hk hl hc ⟨o, σ.has _ _ hV, ho⟩ h hn) hd
theorem nmG (G : Gd w R) (σ : St R V L m s) (e : nsIn (Kx w) mainGlobals x = some (some v)) (h : Q v s) (hg : env.globals = mainGlobals := by rfl) (hk : env.scope.kind = .function := by rfl)
    (hx : env.kindOf x = some .globalImplicit := by kernel_rfl) (hd : (x == ("__debug__" : Str)) = false := by decide +kernel) : wpAny M A (eval (.Name x pos) env) Q E s := by
  obtain ⟨mg, mb, T⟩ := G.topRead σ
  exact Name_function_global hk hx (loadGlobal_global (env := env) (by rw [hg]; exact T.g) (mg_of (G.K σ) T.g e) h) hd
theorem nmB (G : Gd w R) (σ : St R V L m s) (e : nsIn (Kx w) mainGlobals x = some none) (hv : bootBuiltins x = some v) (h : Q v s) (hn : x ≠ "__name__" := by decide +kernel) (hg : env.globals = mainGlobals := by rfl) (hb : env.builtins = builtinsNs := by rfl)
    (hk : env.scope.kind = .function := by rfl) (hx : env.kindOf x = some .globalImplicit := by kernel_rfl) (hd : (x == ("__debug__" : Str)) = false := by decide +kernel) : wpAny M A (eval (.Name x pos) env) Q E s := by
  obtain ⟨mg, mb, T⟩ := G.topRead σ
  exact Name_function_global hk hx (loadGlobal_builtin (env := env) (by rw [hg]; exact T.g) (mg_none_of (G.K σ) T.g e) (by rw [hb]; exact T.b) ((T.builtins x hn).trans hv) h) hd
end

section
variable {M : Model} {w : World} {A : Around} {E : Value → Shared → Prop} {R : Rest} {V : View} {L c : Addr} {m : Str → Option Value} {s : Shared} {env : Env} {x : Str} {pos : Pos} {v : Value} {o : Obj} {Q : Unit → Shared → Prop}
theorem stL (σ : St R V L m s) (h : ∀ s', St R V L (setm m x v) s' → Q () s') (hL : env.locals = L := by rfl) (hk : env.scope.kind = .function := by rfl)
    (hl : env.kindOf x = some .local := by rfl) : wpAny M A (storeName env x v) Q E s := by
  subst hL
  exact wpAny_storeName_local hl σ.ns (fun h' hn hs => h _ (σ.setLocals hn hs)) (by rw [hk]; rfl)
theorem stC {v₀ : Option Value} (σ : St R V L m s) (hc : env.cells.lookup x = some c) (hV : V c = some o) (ho : o.data = .cell v₀)
    (h : ∀ s' o', o'.data = .cell (some v) → St R (upd V c o') L m s' → Q () s') (hk : env.scope.kind = .function := by rfl)
    (hl : env.kindOf x = some .cell := by rfl) : wpAny M A (storeName env x v) Q E s :=
  wpAny_storeName_cell hk hl hc ⟨o, σ.has _ _ hV, ho⟩ fun h' ⟨o', ho', hd'⟩ hs => h _ o' hd' (σ.sameBut hs hV ho')
end

/-! ## small statements -/
section
variable {M : Model} {A : Around} {E : Value → Shared → Prop} {s : Shared} {env : Env}
theorem exExpr {e : Expr} {pos : Pos} {Q : Flow → Shared → Prop} (h : wpAny M A (eval e env) (fun v s' => v = .none ∧ Q .next s') E s)
    (hi : interactive env = false := by rfl) (hs : swapsWith e none pos.line env = pure false := by rfl) : wpAny M A (exec (.Expr e pos) env) Q E s :=
  wpAny_Expr (wpAny_mono h (fun v s' ⟨e, q⟩ => by subst e; exact q) fun _ _ x => x) hi hs
theorem exReturn {e : Expr} {pos : Pos} {Q : Flow → Shared → Prop} (h : wpAny M A (eval e env) (fun v s' => Q (.ret v) s') E s) : wpAny M A (exec (.Return (some e) pos) env) Q E s := by
  rw [exec_Return_some]
  exact wpAny_bind (wpAny_standAt (wpAny_bind (wpAny_mono h (fun v s' q => wpAny_pure q) fun _ _ x => x)))
end

/-! ## lists -/
section
variable {prog : Program} {w : World} {A : Around} {E : Value → Shared → Prop} {R : Rest} {V : View} {L l : Addr} {m : Str → Option Value} {s : Shared} {its : Array Value} {n : Nat} {v : Value} {Q : Value → Shared → Prop}

theorem lsNew {M : Model} {vs : List Value} (σ : St R V L m s) (h : ∀ a s', Gone V a → St R (upd V a (listOf vs.toArray 0)) L m s' → Q (.ref a) s') (hsz : vs.length ≤ sizeLine := by size_fits) :
    wpAny M A (newList vs) Q E s :=
  wpAny_newObj_type (h _ _ σ.fresh σ.push) (by show vs.toArray.size ≤ sizeLine; rw [List.size_toArray]; exact hsz)
abbrev tupOf (its : Array Value) (n : Nat) : Obj := { cls := .type "tuple", data := .seq its n }
theorem tpNew {M : Model} {vs : List Value} (σ : St R V L m s) (h : ∀ a s', Gone V a → St R (upd V a (tupOf vs.toArray 0)) L m s' → Q (.ref a) s') (hsz : vs.length ≤ sizeLine := by size_fits) :
    wpAny M A (newTuple vs) Q E s :=
  wpAny_newObj_type (h _ _ σ.fresh σ.push) (by show vs.toArray.size ≤ sizeLine; rw [List.size_toArray]; exact hsz)

theorem lsMeth {name : Str} {id : String} {pl : Sem Bool} {Q : Value × List Value → Shared → Prop} (σ : St R V L m s) (hl : V l = some (listOf its n)) (slot : Slot "list" name id) (hty : typeOf (.builtin id) = pure (.type "method_descriptor"))
    (h : Q (.builtin id, [.ref l]) s) : wpAny (model prog w) A (getMethod (.ref l) name pl) Q E s :=
  listMethod_K (σ.news1 hl) (.head _) slot hty h
end

/-! ## calling a def -/
def retOf : Flow → Value
  | .ret v => v
  | _ => .none
def bindsM (binds : List (Str × Value)) : Str → Option Value := binds.foldl (fun m p => setm m p.1 p.2) fun _ => none
theorem bindsM_eq (binds : List (Str × Value)) : (fun y => binds.reverse.lookup y) = bindsM binds := by
  have key : ∀ (l : List (Str × Value)) (pre : List (Str × Value)), (fun y => (pre ++ l).reverse.lookup y) = l.foldl (fun m p => setm m p.1 p.2) (fun y => pre.reverse.lookup y) := by
    intro l
    induction l with
    | nil => intro pre; simp
    | cons p l ih =>
      intro pre
      have := ih (pre ++ [p])
      rw [List.append_assoc, List.singleton_append] at this
      rw [this, List.foldl_cons]
      congr 1
      exact lookup_reverse_snoc pre p.1 p.2
  simpa [bindsM] using key binds []

abbrev NoE : Value → Shared → Prop := fun _ _ => False

section
variable {prog : Program} {w : World} {A : Around} {R : Rest} {V : View} {L : Addr} {m : Str → Option Value} {s : Shared} {Q : Value → Shared → Prop}

theorem codeDef (G : Gd w R) (σ : St R V L m s) {RR : Result → Shared → Prop} {name qual : Str} {params : Arguments} {body : List Stmt} {scope : Scope} {dV kV doc pm cdv ct oc : Value} {an od : Option Addr} {osl : Array (Option Value)} {f : Addr} {args : List Value} {binds : List (Str × Value)}
    (ho : (Kx w).lookup f = some ⟨oc, od, .func (fnOf name qual params body scope dV kV doc pm an cdv ct), osl⟩) (hcd : codeIn (Kx w) cdv qual = true) (hroom : A.depth < 900) (hA : A.handled = none)
    (hbind : bindArgs (fnOf name qual params body scope dV kV doc pm an cdv ct) ⟨args, []⟩ = pure binds) (hloc : ∀ y ∈ binds, scope.names.lookup y.1 = some .local)
    (hco : scope.isCoroutine = false) (hgen : scope.isGenerator = false) (hk : scope.kind = .function) (hcell : ∀ x ∈ scope.names, x.2 ≠ .cell)
    (h : ∀ (R' : Rest) (A' : Around) (L' : Addr) (s₁ : Shared), Gd w R' → A'.handled = none → A'.depth = A.depth + 1 → A'.units = A.units + 3 → (∀ V' m' s', St R' V' L' m' s' → St R V' L m s') → St R' V L' (bindsM binds) s₁ →
      wpAny (model prog w) A' (execs body (envOf qual scope L' f cdv)) (fun fl s' => RR (.ok (.ret (retOf fl))) s') NoE s₁) :
    codeAny (model prog w) A (.call (.ref f) ⟨args, []⟩) RR s := by
  refine codeAny_call_def (fd := fnOf name qual params body scope dV kV doc pm an cdv ct) (body := body) (binds := binds) (Nat.lt_trans hroom (by decide)) ((G.K σ) _ _ ho) rfl (G.nolimit σ) (codeRec_of (G.K σ) hcd) rfl (BindsTo.of_eq hbind) hcell hloc (fun h₁ hns hk₁ => ?_) hco hgen hk
  obtain ⟨oL, es, ep, hL, hLd, hLk, hLf⟩ := σ.ns
  have hfl : ∀ a o, (upd R.F L oL) a = some o → s.heap.get? a = some o := fun a o e => by
    by_cases q : a = L
    · subst q; rw [upd_same] at e; cases e; exact hL
    · simp only [upd_at, if_neg q] at e; exact σ.keep a o e
  let R' : Rest := ⟨upd R.F L oL, R.gens, R.os⟩
  have G' : Gd w R' := by
    obtain ⟨hb, mg, mb, h1, T, X⟩ := G.top
    exact ⟨hb, mg, mb, fun a o e => upd_keep ⟨σ.offF⟩ (h1 a o e), T, X⟩
  rw [bindsM_eq] at hns
  refine wpAny_mono (h R' _ s.heap.objs.size _ G' hA rfl rfl (fun V' m' s' τ => ?_) ⟨hns, fun a o e => hk₁ a o (σ.has a o e), σ.fresh.eq, fun a o e => hk₁ a o (hfl a o e), fun a o e => ?_, ?_, σ.gens, σ.os⟩) (fun fl s' q => ?_) (fun _ _ x => x.elim)
  · refine ⟨⟨oL, es, ep, τ.keep L oL upd_same, hLd, hLk, hLf⟩, τ.has, ?_, fun a o e => τ.keep a o (upd_keep ⟨σ.offF⟩ e), fun a o e => ?_, σ.offF, τ.gens, τ.os⟩
    · cases q : V' L with
      | none => rfl
      | some o => have h1 : upd R.F L oL L = none := τ.disj L o q
                  rw [upd_same] at h1; cases h1
    · have h1 : upd R.F L oL a = none := τ.disj a o e
      by_cases q : a = L
      · subst q; rw [upd_same] at h1; cases h1
      · simpa only [upd_at, if_neg q] using h1
  · show upd R.F L oL a = none
    have q : a ≠ L := σ.neL e
    simp only [upd_at, if_neg q]; exact σ.disj a o e
  · show upd R.F L oL s.heap.objs.size = none
    simp only [upd_at, if_neg (Nat.ne_of_gt (Heap.lt_size hL))]; exact σ.freshF
  · cases fl <;> exact q

theorem callDef (G : Gd w R) (σ : St R V L m s) {name qual : Str} {params : Arguments} {body : List Stmt} {scope : Scope} {dV kV doc pm cdv ct oc : Value} {an od : Option Addr} {osl : Array (Option Value)} {f : Addr} {args : List Value} {binds : List (Str × Value)}
    (ho : (Kx w).lookup f = some ⟨oc, od, .func (fnOf name qual params body scope dV kV doc pm an cdv ct), osl⟩) (hcd : codeIn (Kx w) cdv qual = true) (hroom : A.depth < 900) (hA : A.handled = none)
    (hbind : bindArgs (fnOf name qual params body scope dV kV doc pm an cdv ct) ⟨args, []⟩ = pure binds) (hloc : ∀ y ∈ binds, scope.names.lookup y.1 = some .local)
    (hco : scope.isCoroutine = false) (hgen : scope.isGenerator = false) (hk : scope.kind = .function) (hcell : ∀ x ∈ scope.names, x.2 ≠ .cell)
    (h : ∀ (R' : Rest) (A' : Around) (L' : Addr) (s₁ : Shared), Gd w R' → A'.handled = none → A'.depth = A.depth + 1 → A'.units = A.units + 3 → (∀ V' m' s', St R' V' L' m' s' → St R V' L m s') → St R' V L' (bindsM binds) s₁ →
      wpAny (model prog w) A' (execs body (envOf qual scope L' f cdv)) (fun fl s' => Q (retOf fl) s') NoE s₁) :
    wpAny (model prog w) A (call (.ref f) args) Q NoE s :=
  wpAny_call (codeDef G σ ho hcd hroom hA hbind hloc hco hgen hk hcell h)
end

/-! ## dicts of ints -/
section
variable {prog : Program} {w : World} {A : Around} {E : Value → Shared → Prop} {R : Rest} {V : View} {L d : Addr} {m : Str → Option Value} {s : Shared} {o : Obj} {kvs : List (Int × Value)} {k : Int} {t : Tok} {v : Value} {Q : Value → Shared → Prop}

def IntDict (prog : Program) (w : World) (o : Obj) (kvs : List (Int × Value)) : Prop := o.IsDictOf (intKind prog w) kvs
theorem IntDict.at (D : IntDict prog w o kvs) (σ : St R V L m s) (hV : V d = some o) : s.heap.DictOf (intKind prog w) d kvs := Heap.dictOf_iff.mpr ⟨o, σ.has _ _ hV, D⟩

theorem dcItem {value slice : PySem.Expr} (σ : St R V L m s) (hV : V d = some o) (D : IntDict prog w o kvs) (hv : valueAt kvs k = some v) (h : ∀ s', St R V L m s' → Q v s')
    (hs : subscripted slice false (.ref d) (.int k t) = operate [.ref d, .int k t] (getItem (.ref d) (.int k t)) := by with_unfolding_all rfl) :
    wpAny (model prog w) A (subscriptTail value slice (.ref d) (.int k t)) Q E s :=
  have hD := D.at σ hV
  tail_any hD.typeIs F.slot_dict_getitem.lookup (wpAny_getItem_of (intKind_is prog w k t) hD.mapOf hv (h _ σ.tok)) hs
end

/-! ## numbers, constants -/
section
variable {prog : Program} {w : World} {A : Around} {E : Value → Shared → Prop} {R : Rest} {V : View} {L l : Addr} {m : Str → Option Value} {s : Shared} {env : Env} {a b : Int} {t u : Tok} {Q : Value → Shared → Prop}
theorem cnInt {i : Int} {k : Nat} {pos : Pos} (σ : St R V L m s) (h : ∀ s' t, St R V L m s' → Q (.int i t) s') : wpAny (model prog w) A (eval (.Constant (.int i) k pos) env) Q E s := wpAny_Constant_int (h _ _ σ.tok)
theorem cnStr {x : Str} {k : Nat} {pos : Pos} (σ : St R V L m s) (h : ∀ s' t, St R V L m s' → Q (.str x t) s') : wpAny (model prog w) A (eval (.Constant (.str x) k pos) env) Q E s := wpAny_Constant_str (h _ _ σ.tok)
theorem aAdd (σ : St R V L m s) (h : ∀ s' t, St R V L m s' → Q (.int (a + b) t) s') : wpAny (model prog w) A (binaryOp .Add (.int a t) (.int b u)) Q E s := PyProof.Rows.add_int (h _ _ σ.tok)
theorem aSub (σ : St R V L m s) (h : ∀ s' t, St R V L m s' → Q (.int (a - b) t) s') : wpAny (model prog w) A (binaryOp .Sub (.int a t) (.int b u)) Q E s := PyProof.Rows.sub_int (h _ _ σ.tok)
theorem aMod (σ : St R V L m s) (hb : b ≠ 0) (h : ∀ s' t, St R V L m s' → Q (.int (a.fmod b) t) s') : wpAny (model prog w) A (binaryOp .Mod (.int a t) (.int b u)) Q E s := PyProof.Rows.mod_int' hb (h _ _ σ.tok)

theorem lsItem {vs : List Value} {n : Nat} {k : Int} {v : Value} {value slice : PySem.Expr} {ops : List Value} (σ : St R V L m s) (hl : V l = some (listOf vs.toArray n)) (h0 : 0 ≤ k) (h1 : k < 2 ^ 63) (hv : vs[k.toNat]? = some v) (h : Q v s)
    (hs : subscripted slice false (.ref l) (.int k t) = operate ops (getItem (.ref l) (.int k t)) := by with_unfolding_all rfl) :
    wpAny (model prog w) A (subscriptTail value slice (.ref l) (.int k t)) Q E s :=
  tail_any (σ.isList hl).typeIs F.slot_list_getitem.lookup (wpAny_getItem_list (σ.isList hl) h0 h1 (by simpa using hv) h) hs
theorem lsLast {vs : List Value} {n : Nat} {v : Value} {value slice : PySem.Expr} {ops : List Value} (σ : St R V L m s) (hl : V l = some (listOf (vs ++ [v]).toArray n)) (h : Q v s)
    (hs : subscripted slice false (.ref l) (.int (-1) t) = operate ops (getItem (.ref l) (.int (-1) t)) := by with_unfolding_all rfl) :
    wpAny (model prog w) A (subscriptTail value slice (.ref l) (.int (-1) t)) Q E s :=
  tail_any (σ.isList hl).typeIs F.slot_list_getitem.lookup (wpAny_getItem_list_neg (σ.isList hl) (by decide) (by simp only [List.size_toArray, List.length_append, List.length_singleton]; omega) (by decide) (by
    simp only [List.size_toArray, List.length_append, List.length_singleton]
    have e : (-1 + ((vs.length + 1 : Nat) : Int)).toNat = vs.length := by omega
    rw [e]; simp) h) hs
end

/-! ## list methods -/
theorem mapSeq_list (f : Array Value → Array Value) (its : Array Value) (n : Nat) : Obj.mapSeq f (listOf its n) = listOf (f its) (if (f its).size == its.size then n else n + 1) := rfl
section
variable {prog : Program} {w : World} {A : Around} {E : Value → Shared → Prop} {R : Rest} {V : View} {L l b : Addr} {m : Str → Option Value} {s : Shared} {vs ws : List Value} {n n2 : Nat} {v : Value} {Q : Value → Shared → Prop}

theorem lsAppend (σ : St R V L m s) (hl : V l = some (listOf vs.toArray n)) (hsz : vs.length ≤ 1000000) (h : ∀ s' n', St R (upd V l (listOf (vs ++ [v]).toArray n')) L m s' → Q .none s') :
    wpAny (model prog w) A (call (.builtin "list.append") [.ref l, v]) Q E s := by
  have hz : vs.toArray.size ≤ sizeLine := by rw [List.size_toArray, sizeLine_eq]; omega
  have τ := σ.update (tk := s.toks) hl (mapSeq_list (fun x => x.push v) vs.toArray n) rfl
  rw [List.push_toArray] at τ
  exact call_meets F.slot_list_append ⟨_, σ.has _ _ hl, rfl⟩ F.entry_list_append (F.args_list_append_2 _ _) (PySem.list_append l vs.toArray n v hz) ⟨σ.has _ _ hl, h _ _ τ⟩

theorem lsPop (σ : St R V L m s) (hl : V l = some (listOf (vs ++ [v]).toArray n)) (hsz : vs.length ≤ 1000000) (h : ∀ s' n', St R (upd V l (listOf vs.toArray n')) L m s' → Q v s') :
    wpAny (model prog w) A (call (.builtin "list.pop") [.ref l]) Q E s := by
  have hz : (vs ++ [v]).toArray.size ≤ sizeLine := by rw [List.size_toArray, sizeLine_eq]; simp; omega
  have τ := σ.update (tk := s.toks) hl (mapSeq_list (fun xs => xs.eraseIdxIfInBounds ((vs ++ [v]).toArray.size - 1)) (vs ++ [v]).toArray n) rfl
  have e : (vs ++ [v]).toArray.eraseIdxIfInBounds ((vs ++ [v]).toArray.size - 1) = vs.toArray := by
    apply Array.toList_inj.mp
    simp [Array.eraseIdxIfInBounds, List.eraseIdx_append_of_length_le]
  rw [e] at τ
  exact call_meets F.slot_list_pop ⟨_, σ.has _ _ hl, rfl⟩ F.entry_list_pop (F.args_list_pop_1 _) (MeetsSeq.list_pop_last l (vs ++ [v]).toArray n v (by simp) hz) ⟨σ.has _ _ hl, h _ _ τ⟩

theorem lsExtend (σ : St R V L m s) (hl : V l = some (listOf vs.toArray n)) (hb : V b = some (listOf ws.toArray n2)) (hsz : vs.length + ws.length ≤ 1000000) (h : ∀ s' n', St R (upd V l (listOf (vs ++ ws).toArray n')) L m s' → Q .none s') :
    wpAny (model prog w) A (call (.builtin "list.extend") [.ref l, .ref b]) Q E s := by
  have hz : vs.toArray.size + ws.toArray.size ≤ sizeLine := by simp only [List.size_toArray]; rw [sizeLine_eq]; omega
  have τ := σ.update (tk := s.toks) hl (mapSeq_list (fun x => x ++ ws.toArray) vs.toArray n) rfl
  rw [List.append_toArray] at τ
  exact call_meets F.slot_list_extend ⟨_, σ.has _ _ hl, rfl⟩ F.entry_list_extend (F.args_list_extend_2 _ _) (AutoSeq1.list_extend_list_list_0 l vs.toArray n b ws.toArray n2 (extend_door hz) (Nat.le_trans (Nat.le_add_right _ _) hz)) ⟨σ.has _ _ hl, σ.has _ _ hb, h _ _ τ⟩

theorem lsLen (σ : St R V L m s) (hl : V l = some (listOf vs.toArray n)) (hsz : vs.length ≤ 1000000) (h : ∀ s' t, St R V L m s' → Q (.int (vs.length : Nat) t) s') :
    wpAny (model prog w) A (call (.builtin "len") [.ref l]) Q E s := by
  refine call_len_list (σ.isList hl) (by rw [List.size_toArray]; omega) ?_
  rw [List.size_toArray]
  exact h _ _ σ.tok

theorem lsAdd (σ : St R V L m s) (hl : V l = some (listOf vs.toArray n)) (hb : V b = some (listOf ws.toArray n2)) (hsz : vs.length + ws.length ≤ 1000000)
    (h : ∀ s' a, Gone V a → St R (upd V a (listOf (vs ++ ws).toArray 0)) L m s' → Q (.ref a) s') : wpAny (model prog w) A (binaryOp .Add (.ref l) (.ref b)) Q E s := by
  refine P.add_list (σ.isL hl) (σ.isL hb) ?_ (by simp only [List.size_toArray]; rw [sizeLine_eq]; omega)
  rw [List.append_toArray]
  exact h _ _ σ.fresh σ.push

theorem lsRev {value slice : PySem.Expr} {a : Addr} {t : Tok} (σ : St R V L m s) (hl : V l = some (listOf vs.toArray n)) (ha : V a = some { cls := .type "slice", data := .fields #[.none, .none, .int (-1) t] }) (hsz : vs.length ≤ 1000000)
    (h : ∀ s' D, Gone V D → St R (upd V D (listOf vs.reverse.toArray 0)) L m s' → Q (.ref D) s') {ops : List Value}
    (hs : subscripted slice false (.ref l) (.ref a) = operate ops (getItem (.ref l) (.ref a)) := by with_unfolding_all rfl) :
    wpAny (model prog w) A (subscriptTail value slice (.ref l) (.ref a)) Q E s := by
  refine tail_any (σ.isList hl).typeIs F.slot_list_getitem.lookup (wpAny_getItem_list_slice (σ.isList hl) ⟨_, σ.has _ _ ha, rfl, rfl⟩ .none .none (.int (-1) t) (by decide) ?_ (by rw [List.size_toArray, sizeLine_eq]; omega)) hs
  have e := h _ _ σ.fresh (σ.push (tk := s.toks) (o := listOf vs.reverse.toArray 0))
  rw [krv_pick]
  exact e

abbrev slOf (l u v : Value) : Obj := { cls := .type "slice", data := .fields #[l, u, v] }
def SlK (Q : Value → Shared → Prop) (l u v : Value) (s : Shared) : Prop := Q (.ref s.heap.objs.size) { s with heap := s.heap.push (slOf l u v) }
theorem slK {l u v : Value} (σ : St R V L m s) (h : ∀ a s', Gone V a → St R (upd V a (slOf l u v)) L m s' → Q (.ref a) s') : SlK Q l u v s := h _ _ σ.fresh σ.push
theorem slStep {M : Model} {st : PySem.Expr} {env : Env} {p : Pos} (h : wpAny M A (eval st env) (fun v s₁ => SlK Q .none .none v s₁) E s) : wpAny M A (eval (.Slice none none (some st) p) env) Q E s :=
  wpAny_Slice (wpAny_pure (wpAny_pure h))
theorem slUp {M : Model} {up : PySem.Expr} {env : Env} {p : Pos} (h : wpAny M A (eval up env) (fun v s₁ => SlK Q .none v .none s₁) E s) : wpAny M A (eval (.Slice none (some up) none p) env) Q E s :=
  wpAny_Slice (wpAny_pure (wpAny_mono h (fun _ _ q => wpAny_pure q) fun _ _ x => x))
theorem slLoUp {M : Model} {lo up : PySem.Expr} {env : Env} {p : Pos} (h : wpAny M A (eval lo env) (fun a s₁ => wpAny M A (eval up env) (fun v s₂ => SlK Q a v .none s₂) E s₁) E s) : wpAny M A (eval (.Slice (some lo) (some up) none p) env) Q E s :=
  wpAny_Slice (wpAny_mono h (fun _ _ q => wpAny_mono q (fun _ _ q' => wpAny_pure q') fun _ _ x => x) fun _ _ x => x)
end

/-! ## part Rul2 -/

/-! ## the whole heap as a ledger: any rule of the library over Fr and News can be taken -/
def allOf (h : Heap) (L : Addr) : List (Addr × Obj) := (List.range h.objs.size).filterMap fun a => if a = L then none else (h.get? a).map fun o => (a, o)
theorem mem_allOf {h : Heap} {L a : Addr} {o : Obj} : (a, o) ∈ allOf h L ↔ a ≠ L ∧ h.get? a = some o := by
  unfold allOf
  rw [List.mem_filterMap]
  constructor
  · rintro ⟨b, hb, e⟩
    by_cases q : b = L
    · rw [if_pos q] at e; cases e
    · rw [if_neg q] at e
      cases hg : h.get? b with
      | none => rw [hg] at e; cases e
      | some ob => rw [hg] at e; cases e; exact ⟨q, hg⟩
  · rintro ⟨q, hg⟩
    exact ⟨a, List.mem_range.mpr (Heap.lt_size hg), by rw [if_neg q, hg]; rfl⟩
theorem nodup_allOf (h : Heap) (L : Addr) : ((allOf h L).map (·.1)).Nodup := by
  have key : ∀ l : List Nat, l.Nodup → ((l.filterMap fun a => if a = L then none else (h.get? a).map fun o => (a, o)).map (·.1)).Nodup ∧ ∀ p ∈ (l.filterMap fun a => if a = L then none else (h.get? a).map fun o => (a, o)), p.1 ∈ l := by
    intro l
    induction l with
    | nil => intro _; exact ⟨List.nodup_nil, fun p hp => nomatch hp⟩
    | cons a l ih =>
      intro hn
      obtain ⟨h1, h2⟩ := List.nodup_cons.mp hn
      obtain ⟨i1, i2⟩ := ih h2
      rw [List.filterMap_cons]
      cases e : (if a = L then none else (h.get? a).map fun o => (a, o)) with
      | none => exact ⟨i1, fun p hp => List.mem_cons_of_mem _ (i2 p hp)⟩
      | some q =>
        have hq : q.1 = a := by
          by_cases z : a = L
          · rw [if_pos z] at e; cases e
          · rw [if_neg z] at e
            cases hg : h.get? a with
            | none => rw [hg] at e; cases e
            | some ob => rw [hg] at e; cases e; rfl
        refine ⟨?_, fun p hp => ?_⟩
        · rw [List.map_cons, List.nodup_cons]
          refine ⟨fun hm => ?_, i1⟩
          obtain ⟨p, hp, hpe⟩ := List.mem_map.mp hm
          exact h1 (by rw [← hq, ← hpe]; exact i2 p hp)
        · rcases List.mem_cons.mp hp with rfl | hp
          · rw [hq]; exact List.mem_cons_self
          · exact List.mem_cons_of_mem _ (i2 p hp)
  exact (key _ List.nodup_range).1

section
variable {R : Rest} {V V' : View} {L d : Addr} {m m' : Str → Option Value} {s : Shared} {o o' : Obj} {h' : Heap} {tk : Nat}
theorem St.news (σ : St R V L m s) : News h0 L s.heap (allOf s.heap L) := fun p hp => by
  obtain ⟨a, o⟩ := p
  obtain ⟨h1, h2⟩ := mem_allOf.mp hp
  exact ⟨h2, h1, h0_none _⟩

theorem St.after (σ : St R V L m s) {new : List (Addr × Obj)} (F : Fr h0 L h' m') (N : News h0 L h' (new ++ allOf s.heap L)) : St R V L m' { s with heap := h', toks := tk } := by
  have k : ∀ a o, a ≠ L → s.heap.get? a = some o → h'.get? a = some o := fun a o q e => (N (a, o) (List.mem_append_right _ (mem_allOf.mpr ⟨q, e⟩))).1
  exact ⟨F.ns, fun a o e => k a o (σ.neL e) (σ.has a o e), σ.off, fun a o e => k a o (by rintro rfl; rw [σ.offF] at e; cases e) (σ.keep a o e), σ.disj, σ.offF, σ.gens, σ.os⟩
theorem St.after0 (σ : St R V L m s) (F : Fr h0 L h' m') (N : News h0 L h' (allOf s.heap L)) : St R V L m' { s with heap := h', toks := tk } := σ.after (new := []) F N

theorem St.addNew (σ : St R V L m s) {a : Addr} (hV : Gone V a) (hF : R.F a = none) (ha : a ≠ L) (ho : s.heap.get? a = some o) : St R (upd V a o) L m s := by
  refine ⟨σ.ns, fun b ob e => ?_, ?_, σ.keep, fun b ob e => ?_, σ.offF, σ.gens, σ.os⟩
  · by_cases q : b = a
    · subst q; rw [upd_same] at e; cases e; exact ho
    · simp only [upd_at, if_neg q] at e; exact σ.has b ob e
  · simp only [upd_at, if_neg ha.symm]; exact σ.off
  · by_cases q : b = a
    · subst q; exact hF
    · simp only [upd_at, if_neg q] at e; exact σ.disj b ob e

/-- one new object, older than nothing that stood -/
theorem St.new1 (σ : St R V L m s) {a : Addr} (F : Fr h0 L h' m') (N : News h0 L h' ((a, o) :: allOf s.heap L)) (hlt : ∀ p ∈ allOf s.heap L, p.1 < a) (ha : a ≠ L) : Gone V a ∧ St R (upd V a o) L m' { s with heap := h', toks := tk } := by
  have hno : s.heap.get? a = none := by
    cases q : s.heap.get? a with
    | none => rfl
    | some oa => exact absurd (hlt (a, oa) (mem_allOf.mpr ⟨ha, q⟩)) (Nat.lt_irrefl _)
  have hV : V a = none := by
    cases q : V a with
    | none => rfl
    | some oa => rw [σ.has a oa q] at hno; cases hno
  have hF : R.F a = none := by
    cases q : R.F a with
    | none => rfl
    | some oa => rw [σ.keep a oa q] at hno; cases hno
  exact ⟨⟨hV⟩, (σ.after (new := [(a, o)]) F N).addNew ⟨hV⟩ hF ha (N (a, o) List.mem_cons_self).1⟩

/-- one object changed -/
theorem St.led (σ : St R V L m s) (hV : V d = some o) : ∃ pre post, News h0 L s.heap (pre ++ (d, o) :: post) ∧ (∀ p ∈ pre, p.1 ≠ d) ∧ (∀ p ∈ post, p.1 ≠ d) ∧
    ∀ h' m' o' tk, Fr h0 L h' m' → News h0 L h' (pre ++ (d, o') :: post) → St R (upd V d o') L m' { s with heap := h', toks := tk } := by
  have hm : (d, o) ∈ allOf s.heap L := mem_allOf.mpr ⟨σ.neL hV, σ.has _ _ hV⟩
  obtain ⟨pre, post, e⟩ := List.append_of_mem hm
  have hn := nodup_allOf s.heap L
  rw [e, List.map_append, List.map_cons] at hn
  obtain ⟨n1, n2, n3⟩ := List.nodup_append.mp hn
  refine ⟨pre, post, e ▸ σ.news, fun p hp q => n3 _ (List.mem_map_of_mem hp) _ List.mem_cons_self q, fun p hp q => (List.nodup_cons.mp n2).1 (List.mem_map.mpr ⟨p, hp, q⟩), fun h' m' o' tk F N => ?_⟩
  have k : ∀ a oa, a ≠ d → a ≠ L → s.heap.get? a = some oa → h'.get? a = some oa := fun a oa q1 q2 ea => by
    have hma : (a, oa) ∈ allOf s.heap L := mem_allOf.mpr ⟨q2, ea⟩
    rw [e] at hma
    rcases List.mem_append.mp hma with h1 | h1
    · exact (N (a, oa) (List.mem_append_left _ h1)).1
    · rcases List.mem_cons.mp h1 with h2 | h2
      · cases h2; exact absurd rfl q1
      · exact (N (a, oa) (List.mem_append_right _ (List.mem_cons_of_mem _ h2))).1
  have ho' : h'.get? d = some o' := (N (d, o') (List.mem_append_right _ List.mem_cons_self)).1
  refine ⟨F.ns, fun a oa ea => ?_, ?_, fun a oa ea => k a oa (by rintro rfl; rw [σ.disj _ _ hV] at ea; cases ea) (by rintro rfl; rw [σ.offF] at ea; cases ea) (σ.keep a oa ea), fun a oa ea => ?_, σ.offF, σ.gens, σ.os⟩
  · by_cases q : a = d
    · subst q; rw [upd_same] at ea; cases ea; exact ho'
    · simp only [upd_at, if_neg q] at ea; exact k a oa q (σ.neL ea) (σ.has a oa ea)
  · simp only [upd_at, if_neg (σ.neL hV).symm]; exact σ.off
  · by_cases q : a = d
    · subst q; exact σ.disj _ _ hV
    · simp only [upd_at, if_neg q] at ea; exact σ.disj a oa ea
end

/-! ## instances -/
section
variable {prog : Program} {w : World} {A : Around} {E : Value → Shared → Prop} {R : Rest} {V : View} {L x C dx : Addr} {m : Str → Option Value} {s : Shared} {es es' : List DictEntry} {n n' : Nat} {name : Str} {v : Value}
theorem inst_at (σ : St R V L m s) (hx : V x = some (instObj C dx)) (hd : V dx = some (dictOf es n)) : InstAt s.heap x (instObj C dx) C (some (dictOf es n)) :=
  ⟨σ.has _ _ hx, rfl, rfl, σ.has _ _ hd⟩
theorem inGet {expr : Bool} {attr : Option Value} {Q : Value → Shared → Prop} (G : Gd w R) (σ : St R V L m s) (hx : V x = some (instObj C dx)) (hd : V dx = some (dictOf es n)) (hg : plainGet (Kx w) C name = true) (hh : hasDictIn (Kx w) C = true)
    (ha : findIn (Kx w) (.ref C) name = some attr) (hn : noGet (Kx w) attr = true) (hl : getL name es = some (some v)) (hv : handedIn v = true) (h : ∀ s', St R V L m s' → Q v s') :
    wpAny (model prog w) A (getAttr (.ref x) name expr) Q E s :=
  get_value (G.K σ) (inst_at σ hx hd) (plainGet_of hg).1 (findObj_own hh ha hn (by rw [lookIn_dict]; exact hl)) hv (h _ σ.tok)
theorem inMeth {pl : Sem Bool} {f : Addr} {Q : Value × List Value → Shared → Prop} (G : Gd w R) (σ : St R V L m s) (hx : V x = some (instObj C dx)) (hd : V dx = some (dictOf es n)) (hg : plainGet (Kx w) C name = true)
    (hf : findIn (Kx w) (.ref C) name = some (some (.ref f))) (ht : isFn (Kx w) (.ref f) = true) (hl : getL name es = some none) (h : Q (.ref f, [.ref x]) s) : wpAny (model prog w) A (getMethod (.ref x) name pl) Q E s :=
  method_fn (G.K σ) (inst_at σ hx hd) (plainGet_of hg).1 (plainGet_of hg).2 hf (beq_iff_eq.mp ht) (by show (lookIn name (dictOf es n)).map _ = _; rw [lookIn_dict, hl]; rfl) h
theorem inSet {Q : Unit → Shared → Prop} (G : Gd w R) (σ : St R V L m s) (hx : V x = some (instObj C dx)) (hd : V dx = some (dictOf es n))
    (hs : findIn (Kx w) (.ref C) "__setattr__" = some (some (.builtin "object.__setattr__"))) (hp : plainOver (Kx w) C = true) (ht : takerIn (Kx w) C name = some none) (hh : hasDictIn (Kx w) C = true) (hl : (getL name es).isSome = true)
    (hz : (putL name (PyData.keyHash w.params name) (.str name (s.toks + 1)) v es).length ≤ 1000)
    (h : ∀ s' hs t n', St R (upd V dx (dictOf (putL name hs (.str name t) v es) n')) L m s' → Q () s') :
    wpAny (model prog w) A (setAttr (.ref x) name v) Q E s := by
  obtain ⟨pre, post, N, a, b, k⟩ := σ.led hd
  exact set_plain (G.K σ) (inst_at σ hx hd) hs (osa_dict (s := { s with toks := s.toks + 1 }) σ.fr N (G.K (s := { s with toks := s.toks + 1 }) σ.tok) (inst_at (s := { s with toks := s.toks + 1 }) σ.tok hx hd) rfl hp ht hh (by rw [lookIn_dict]; exact hl) a b (by rw [putName_dict]) rfl hz
    fun h' F' N' => h _ _ _ _ (k h' m _ _ F' N'))
theorem inNew {rest : List Value} {fI : Addr} {Q : Value → Shared → Prop} (G : Gd w R) (σ : St R V L m s) (hm : makesIn (Kx w) C = true)
    (hi : findIn (Kx w) (.ref C) "__init__" = some (some (.ref fI))) (hf : isFn (Kx w) (.ref fI) = true)
    (h : ∀ x dx s', Gone V dx → Gone V x → x ≠ dx → St R (upd (upd V dx (dictOf [] 0)) x (instObj C dx)) L m s' →
      codeAny (model prog w) (A.under (.builtin "type.__call__" ⟨.ref C :: rest, []⟩)) (.call (.ref fI) ⟨.ref x :: rest, []⟩) (fun r s'' => match r with | .ok (.ret v) => v = .none ∧ Q (.ref x) s'' | .ok _ => False | .error e => E e s'') s') :
    wpAny (model prog w) A (call (.ref C) rest) Q E s := by
  refine wpAny_call ?_
  have τ := (σ.push (tk := s.toks) (o := dictOf [] 0)).push (tk := s.toks) (o := instObj C s.heap.objs.size)
  have f1 := σ.fresh
  have f2 := (σ.push (tk := s.toks) (o := dictOf [] 0)).fresh
  have X := G.K σ
  obtain ⟨hh, g, d, t, os⟩ := s
  refine make_core (makes_of X hm) (looks_findIn X hi) (fun self => bind_fn X self (beq_iff_eq.mp hf)) (.inl rfl) ?_
  simp only [Heap.size_push] at τ f2
  refine codeAny_mono (h (hh.objs.size + 1) hh.objs.size _ f1 ⟨?_⟩ (Nat.succ_ne_self _) τ) fun r s' q => ?_
  · have f2' := f2.eq
    by_cases z : hh.objs.size + 1 = hh.objs.size
    · exact absurd z (Nat.succ_ne_self _)
    · simpa only [upd_at, if_neg z] using f2'
  · rcases r with e | (_ | _ | _ | v) <;> exact q
end

/-! ## more lists, tuples -/
section
variable {prog : Program} {w : World} {A : Around} {E : Value → Shared → Prop} {R : Rest} {V : View} {L l b : Addr} {m : Str → Option Value} {s : Shared} {vs ws : List Value} {n n2 : Nat} {v : Value} {Q : Value → Shared → Prop}
theorem lsCopy (σ : St R V L m s) (hl : V l = some (listOf vs.toArray n)) (hsz : vs.length ≤ 1000000) (h : ∀ s' a n', Gone V a → St R (upd V a (listOf vs.toArray n')) L m s' → Q (.ref a) s') :
    wpAny (model prog w) A (call (.type "list") [.ref l]) Q E s :=
  call_list_seq l (.inl rfl) (σ.has _ _ hl) rfl rfl (fun h' c' k ho => h _ _ c' σ.fresh ((σ.keeps (tk := s.toks) k).addNew σ.fresh σ.freshF (Nat.ne_of_gt σ.ns.lt) ho)) (by rw [List.size_toArray, sizeLine_eq]; omega)
theorem tpOf (σ : St R V L m s) (hl : V l = some (listOf vs.toArray n)) (hsz : vs.length ≤ 1000000) (h : ∀ s' a, Gone V a → St R (upd V a (tupOf vs.toArray 0)) L m s' → Q (.ref a) s') :
    wpAny (model prog w) A (call (.type "tuple") [.ref l]) Q E s := by
  refine call_tuple_list (σ.isList hl) (fun h' k => ?_) (by rw [List.size_toArray, sizeLine_eq]; omega)
  have τ := σ.keeps (tk := s.toks) k
  exact h _ _ τ.fresh (τ.push (o := tupOf vs.toArray 0))
theorem upItems {k : Nat} {Q : List Value → Shared → Prop} (hA : A.handled = none) (σ : St R V L m s) (ht : V l = some (tupOf vs.toArray n)) (hk : k = vs.length) (h : ∀ s', St R V L m s' → Q vs s') : wpAny (model prog w) A (unpackItems (.ref l) k none) Q E s := by
  have e : k = vs.toArray.size := by rw [hk, List.size_toArray]
  subst e
  refine unpackItems_tuple hA ⟨_, σ.has _ _ ht, rfl, n, rfl⟩ fun h' he => ?_
  exact h _ (σ.extBut he σ.fresh σ.freshF (Nat.ne_of_gt σ.ns.lt))
theorem asName {M : Model} {env : Env} {x : Str} {pos : Pos} {Q : Unit → Shared → Prop} (h : wpAny M A (storeName env x v) Q E s) : wpAny M A (assign (.Name x pos) env v) Q E s := assign_Name h

theorem lsNeNil (σ : St R V L m s) (hl : V l = some (listOf vs.toArray n)) (hb : V b = some (listOf ([] : List Value).toArray n2)) (hu : A.units < 9000) (h : Q (.bool (!vs.isEmpty)) s) :
    wpAny (model prog w) A (compareOp .NotEq (.ref l) (.ref b)) Q E s := by
  have hc : A.units < cLine := Nat.lt_trans hu (by decide)
  refine cmp_ofNotEq ?_
  cases vs with
  | nil => exact SeqAt.RcNeAt.lists (e := fun _ => true) (σ.isList hl) (σ.isList hb) rfl hc (fun j h1 _ => absurd h1 (Nat.not_lt_zero _)) prog w E Q h
  | cons x r => exact SeqAt.RcNeAt.lists_lengths (σ.isList hl) (σ.isList hb) (by simp) hc prog w E Q h
theorem lsEqNil (σ : St R V L m s) (hl : V l = some (listOf vs.toArray n)) (hb : V b = some (listOf ([] : List Value).toArray n2)) (hu : A.units < 9000) (h : Q (.bool vs.isEmpty) s) :
    wpAny (model prog w) A (compareOp .Eq (.ref l) (.ref b)) Q E s := by
  have hc : A.units < cLine := Nat.lt_trans hu (by decide)
  cases vs with
  | nil => exact SeqAt.eq_listAt (e := fun _ => true) (σ.isList hl) (σ.isList hb) rfl hc (fun j h1 _ => absurd h1 (Nat.not_lt_zero _)) h
  | cons x r => exact SeqAt.eq_list_lengthsAt (σ.isList hl) (σ.isList hb) (by simp) hc h
end

theorem cwRef {M : Model} {A : Around} {E : Value → Shared → Prop} {s : Shared} {w : World} {env : Env} {pos : Pos} {a : Addr} {first : List Value} {e : PySem.Expr} {rest : List PySem.Expr} {Q : Value → Shared → Prop} {R : Rest} (_G : Gd w R) (hk : keepIn (Kx w) (.ref a) = true)
    (h : wpAny M A (spliced (backTo pos (starEach (e :: rest) env))) (fun vs s₁ => (Kx w).In s₁.heap ∧ wpAny M A (call (.ref a) (first ++ vs)) Q E s₁) E s)
    (he : starEach (e :: rest) env = (false, eval e env) :: starEach rest env := by rfl) (hplain : (backTo pos (starEach rest env)).any (·.1) = false := by rfl) :
    wpAny M A (callWith pos (.ref a) first (backTo pos (starEach (e :: rest) env)) []) Q E s :=
  callWith_of (P := fun h => (Kx w).In h) (by rw [he]; show ((false || (backTo pos (starEach rest env)).any (·.1)) || false) = false; rw [hplain]; rfl) (keeps_K hk) (by rw [he] at h ⊢; exact evalArgs_plain h)

theorem aNeg {prog : Program} {w : World} {A : Around} {E : Value → Shared → Prop} {R : Rest} {V : View} {L : Addr} {m : Str → Option Value} {s : Shared} {i : Int} {t : Tok} {Q : Value → Shared → Prop} (σ : St R V L m s) (h : ∀ s' t, St R V L m s' → Q (.int (-i) t) s') :
    wpAny (model prog w) A (unaryOp .USub (.int i t)) Q E s := PyProof.Rows.neg_int (h _ _ σ.tok)
theorem bt_list : bootBuiltins (Str.ofString "list") = some (.type "list") := by kernel_rfl
theorem bt_range : bootBuiltins (Str.ofString "range") = some (.type "range") := by kernel_rfl
theorem bt_tuple : bootBuiltins (Str.ofString "tuple") = some (.type "tuple") := by kernel_rfl
theorem bt_dict : bootBuiltins (Str.ofString "dict") = some (.type "dict") := by kernel_rfl
theorem bt_enumerate : bootBuiltins (Str.ofString "enumerate") = some (.type "enumerate") := by kernel_rfl
theorem bt_int : bootBuiltins (Str.ofString "int") = some (.type "int") := by kernel_rfl
theorem bt_str : bootBuiltins (Str.ofString "str") = some (.type "str") := by kernel_rfl
theorem bt_bytes : bootBuiltins (Str.ofString "bytes") = some (.type "bytes") := by kernel_rfl
theorem bt_len : bootBuiltins (Str.ofString "len") = some (.builtin "len") := by kernel_rfl
theorem bt_abs : bootBuiltins (Str.ofString "abs") = some (.builtin "abs") := by kernel_rfl
theorem bt_ord : bootBuiltins (Str.ofString "ord") = some (.builtin "ord") := by kernel_rfl

/-! ## part Cmp -/

/-! ## what is walked -/
structure Src (prog : Program) (w : World) (A : Around) (V : View) (I : Addr) (n : Nat) (P : Nat → Value → Prop) (Z : Nat → Heap → Prop) : Prop where
  walk : ∃ fp, Walks prog w A I fp [I] n P Z ∧ ∀ b ∈ fp, b = I ∨ ∃ o, V b = some o
  live : ∀ i h, Z i h → ∃ o, h.get? I = some o

section
variable {prog : Program} {w : World} {A : Around} {R : Rest} {V V' : View} {L I : Addr} {m : Str → Option Value} {s : Shared} {n : Nat} {P : Nat → Value → Prop} {Z : Nat → Heap → Prop}
theorem Src.frame (S : Src prog w A V I n P Z) {i : Nat} {h h' : Heap} (z : Z i h) (hV : ∀ a o, V a = some o → h.get? a = some o ∧ h'.get? a = some o) (hI : ∀ o, h.get? I = some o → h'.get? I = some o) : Z i h' := by
  obtain ⟨fp, W, hs⟩ := S.walk
  refine W.frame _ _ _ z fun b hb o e => ?_
  rcases hs b hb with rfl | ⟨ob, hb⟩
  · exact hI o e
  · obtain ⟨h1, h2⟩ := hV b ob hb
    rw [h1] at e; cases e; exact h2

def Rest.fence (R : Rest) (l : List (Addr × Obj)) : Rest := ⟨fun a => (l.lookup a).or (R.F a), R.gens, R.os⟩
theorem lookup_none_of {l : List (Addr × Obj)} {a : Addr} (h : ∀ p ∈ l, p.1 ≠ a) : l.lookup a = none := by
  induction l with
  | nil => rfl
  | cons p r ih =>
    obtain ⟨b, o⟩ := p
    have h1 : (a == b) = false := beq_eq_false_iff_ne.mpr (Ne.symm (h (b, o) List.mem_cons_self))
    rw [List.lookup_cons, h1]
    exact ih fun q hq => h q (List.mem_cons_of_mem _ hq)
theorem lookup_mem {l : List (Addr × Obj)} {a : Addr} {o : Obj} (h : l.lookup a = some o) : (a, o) ∈ l := by
  induction l with
  | nil => cases h
  | cons p r ih =>
    obtain ⟨b, ob⟩ := p
    rw [List.lookup_cons] at h
    cases hb : a == b with
    | true => rw [hb] at h; cases h; rw [beq_iff_eq.mp hb]; exact List.mem_cons_self
    | false => rw [hb] at h; exact List.mem_cons_of_mem _ (ih h)
theorem lookup_of_mem {l : List (Addr × Obj)} (hn : (l.map (·.1)).Nodup) {p : Addr × Obj} (h : p ∈ l) : l.lookup p.1 = some p.2 := by
  induction l with
  | nil => cases h
  | cons q r ih =>
    obtain ⟨b, ob⟩ := q
    rw [List.map_cons, List.nodup_cons] at hn
    rw [List.lookup_cons]
    rcases List.mem_cons.mp h with rfl | h
    · simp
    · have : (p.1 == b) = false := beq_eq_false_iff_ne.mpr fun e => hn.1 (List.mem_map.mpr ⟨p, h, e⟩)
      rw [this]; exact ih hn.2 h
theorem Gd.fence (G : Gd w R) {l : List (Addr × Obj)} (h : ∀ p ∈ l, R.F p.1 = none) : Gd w (R.fence l) := by
  obtain ⟨hb', mg, mb, h1, T, X⟩ := G.top
  refine ⟨hb', mg, mb, fun c o e => ?_, T, X⟩
  have e' := h1 c o e
  show (l.lookup c).or (R.F c) = some o
  cases q : l.lookup c with
  | none => rw [e']; rfl
  | some oc => have := h _ (lookup_mem q); rw [this] at e'; cases e'

/-- into another frame: the present one and what `l` bears are fenced -/
theorem St.fence (σ : St R V L m s) {C : Addr} {mc : Str → Option Value} (hn : s.heap.Ns C mc) (gC : Gone V C) (fC : R.F C = none) (neC : C ≠ L) (l : List (Addr × Obj)) (hnd : (l.map (·.1)).Nodup)
    (hl : ∀ p ∈ l, s.heap.get? p.1 = some p.2 ∧ Gone V p.1 ∧ R.F p.1 = none ∧ p.1 ≠ C ∧ p.1 ≠ L) :
    ∃ oL, (∀ w, Gd w R → Gd w (R.fence ((L, oL) :: l))) ∧ St (R.fence ((L, oL) :: l)) V C mc s ∧
      ∀ V' m' s', St (R.fence ((L, oL) :: l)) V' C m' s' → St R V' L m s' ∧ (∀ p ∈ l, s'.heap.get? p.1 = some p.2 ∧ Gone V' p.1) ∧ Gone V' C := by
  obtain ⟨oL, es, ep, hL, hLd, hLk, hLf⟩ := σ.ns
  have hnd' : (((L, oL) :: l).map (·.1)).Nodup := by
    rw [List.map_cons, List.nodup_cons]
    refine ⟨fun h => ?_, hnd⟩
    obtain ⟨p, hp, e⟩ := List.mem_map.mp h
    exact (hl p hp).2.2.2.2 e
  have look : ∀ p ∈ (L, oL) :: l, (R.fence ((L, oL) :: l)).F p.1 = some p.2 := fun p hp => by
    show (((L, oL) :: l).lookup p.1).or (R.F p.1) = some p.2
    rw [lookup_of_mem hnd' hp]; rfl
  have off : ∀ a, (∀ p ∈ (L, oL) :: l, p.1 ≠ a) → (R.fence ((L, oL) :: l)).F a = R.F a := fun a h => by
    show (((L, oL) :: l).lookup a).or (R.F a) = R.F a
    rw [lookup_none_of h]; rfl
  have hF : ∀ a o, (R.fence ((L, oL) :: l)).F a = some o → s.heap.get? a = some o := fun a o e => by
    have e' : (((L, oL) :: l).lookup a).or (R.F a) = some o := e
    cases q : ((L, oL) :: l).lookup a with
    | none => rw [q] at e'; exact σ.keep a o e'
    | some ob =>
      rw [q] at e'; cases e'
      rcases List.mem_cons.mp (lookup_mem q) with e2 | h2
      · cases e2; exact hL
      · exact (hl _ h2).1
  refine ⟨oL, fun w G => G.fence fun p hp => ?_, ⟨hn, σ.has, gC.eq, hF, fun a o e => ?_, ?_, σ.gens, σ.os⟩, fun V' m' s' τ => ?_⟩
  · rcases List.mem_cons.mp hp with rfl | hp
    · exact σ.offF
    · exact (hl p hp).2.2.1
  · rw [off a fun p hp => ?_]
    · exact σ.disj a o e
    · rcases List.mem_cons.mp hp with rfl | hp
      · exact (σ.neL e).symm
      · exact (ne_fresh (hl p hp).2.1 e).symm
  · rw [off C fun p hp => ?_]
    · exact fC
    · rcases List.mem_cons.mp hp with rfl | hp
      · exact neC.symm
      · exact (hl p hp).2.2.2.1
  · have gone : ∀ p ∈ (L, oL) :: l, V' p.1 = none := fun p hp => by
      cases q : V' p.1 with
      | none => rfl
      | some o => have := τ.disj _ _ q; rw [look p hp] at this; cases this
    have kL : s'.heap.get? L = some oL := τ.keep L oL (look (L, oL) List.mem_cons_self)
    refine ⟨⟨⟨oL, es, ep, kL, hLd, hLk, hLf⟩, τ.has, gone (L, oL) List.mem_cons_self, fun a o e => τ.keep a o ?_, fun a o e => ?_, σ.offF, τ.gens, τ.os⟩, fun p hp => ⟨τ.keep _ _ (look p (List.mem_cons_of_mem _ hp)), ⟨gone p (List.mem_cons_of_mem _ hp)⟩⟩, ⟨τ.off⟩⟩
    · rw [off a fun p hp q => ?_]; exact e
      subst q
      rcases List.mem_cons.mp hp with rfl | hp
      · rw [σ.offF] at e; cases e
      · rw [(hl p hp).2.2.1] at e; cases e
    · have := τ.disj a o e
      rw [off a fun p hp q => ?_] at this; exact this
      subst q
      rw [gone p hp] at e; cases e

/-- between two turns: the caller's frame, the block's own frame at C, the walker at I, what is gathered at D -/
structure Mid (R : Rest) (V : View) (L : Addr) (m : Str → Option Value) (C I D : Addr) (ys : List Value) (z : Heap → Prop) (s : Shared) : Prop where
  st : St R V L m s
  own : ∃ mc, s.heap.Ns C mc
  lst : ∃ nn, s.heap.get? D = some (listOf ys.toArray nn)
  goneC : Gone V C
  goneI : Gone V I
  goneD : Gone V D
  fC : R.F C = none
  fI : R.F I = none
  fD : R.F D = none
  neC : C ≠ L
  neI : I ≠ L
  neD : D ≠ L
  neCI : C ≠ I
  neCD : C ≠ D
  neDI : D ≠ I
  it : z s.heap
end

/-! ## a comprehension -/
section
variable {prog : Program} {w : World} {A : Around} {R : Rest} {V : View} {L I : Addr} {m : Str → Option Value} {s : Shared} {n : Nat} {P : Nat → Value → Prop} {Z : Nat → Heap → Prop} {env : Env}
  {elt iter : PySem.Expr} {x : Str} {px : Pos} {ifs : List PySem.Expr} {scope : Scope} {cl : List (Str × Addr)} {pos : Pos}

abbrev ifsTree (ifs : List PySem.Expr) (env : Env) : Sem Bool := forIn ifs true fun c r => if r = true then do let ok ← isTrue c env (eval c env); pure (ForInStep.yield ok) else pure (ForInStep.yield r)

theorem compCore (σ : St R V L m s) (S : Src prog w A V I n P Z) (z : Z 0 s.heap) (gI : Gone V I) (fI : R.F I = none) (neI : I ≠ L) (hn : n ≤ 1000) (p : Value → Bool) (Inv : List Value → List Value → View → Prop) (mono : ∀ vs ys V V', Le V V' → Inv vs ys V → Inv vs ys V') (i0 : Inv [] [] V)
    (hcell : ∀ y ∈ scope.names, y.2 ≠ .cell) (hkind : scope.kind = .function) (hx : scope.names.lookup x = some .local)
    (tests : ∀ R' V' C mc s' v i, (Gd w R → Gd w R') → Le V V' → P i v → St R' V' C mc s' → mc x = some v →
      wpAny (model prog w) A (ifsTree ifs (compEnvC scope cl C env)) (fun ok s'' => ok = p v ∧ ∃ mc', mc' x = some v ∧ St R' V' C mc' s'') NoE s')
    (helt : ∀ R' V' C mc s' v i vs ys, (Gd w R → Gd w R') → Le V V' → P i v → p v = true → St R' V' C mc s' → mc x = some v → Inv vs ys V' → ((∀ u, p u = true) → vs.length = i) →
      wpAny (model prog w) A (eval elt (compEnvC scope cl C env)) (fun y s'' => ∃ V'' mc', Le V' V'' ∧ Inv (vs ++ [v]) (ys ++ [y]) V'' ∧ St R' V'' C mc' s'') NoE s')
    {RR : Value → Addr → Result → Shared → Prop}
    (hRR : ∀ V' D C nn ys (vs : List Value) s' mc, Le V V' → Gone V D → V' D = some (listOf ys.toArray nn) → vs.length = n → (∀ i v, vs[i]? = some v → P i v) → Inv (vs.filter p) ys V' → St R V' L m s' →
      s'.heap.Ns C mc → Gone V' C → R.F C = none → C ≠ L → RR (.ref D) C (.ok .next) s') :
    wpAny (model prog w) A (newList []) (fun acc s₃ => wpAny (model prog w) A (newFunctionEnv scope env.globals cl [] env.qual none .none (some env)) (fun cenv s₄ =>
      codeAny (model prog w) A (.compStart (.ListComp elt [⟨.Name x px, iter, ifs, 0⟩] scope pos) 0 (.ref I) acc { cenv with scope := relabel scope env }) (RR acc cenv.locals) s₄) NoE s₃) NoE s := by
  refine wpAny_newObj_type (wpAny_newFunctionEnv hcell (by intro y hy; simp at hy) (fun h₁ hns₁ hsb₁ => ?_) hkind)
  dsimp only at hns₁ hsb₁ ⊢
  have σ₁ := σ.push (tk := s.toks) (o := listOf ([] : List Value).toArray 0)
  have gD := σ.fresh
  have fD := σ.freshF
  have nDL := Nat.ne_of_gt σ.ns.lt
  have gC := σ₁.fresh
  have fC := σ₁.freshF
  have nLC := Nat.ne_of_gt σ₁.ns.lt
  obtain ⟨oI, hI⟩ := S.live _ _ z
  have ltI : @LT.lt Nat _ I s.heap.objs.size := Heap.lt_size hI
  dsimp only at gC fC nLC
  have hD0 : (s.heap.push (listOf ([] : List Value).toArray 0)).get? s.heap.objs.size = some (listOf ([] : List Value).toArray 0) := Heap.get?_push_size _ rfl
  generalize hH2 : s.heap.push (listOf ([] : List Value).toArray 0) = H2 at *
  have hC : H2.objs.size = s.heap.objs.size + 1 := by rw [← hH2, Heap.size_push]
  have k1 : ∀ b o, s.heap.get? b = some o → H2.get? b = some o := fun b o e => by rw [← hH2]; exact Heap.get?_push_of_some _ e
  have k2 : ∀ b o, H2.get? b = some o → h₁.get? b = some o := fun b o e => hsb₁.extBut b o (Nat.ne_of_lt (Heap.lt_size e)) (Heap.get?_push_of_some _ e)
  have gC' : Gone V H2.objs.size := Gone.of_le (Le.upd gD (Le.refl _)) gC
  have M0 : Mid R V L m H2.objs.size I s.heap.objs.size [] (Z 0) { s with heap := h₁, toks := s.toks + ([] : List (Str × Value)).length } := by
    refine ⟨σ.keeps fun b o e => k2 _ _ (k1 _ _ e), ⟨_, hns₁⟩, ⟨0, k2 _ _ hD0⟩, gC', gI, gD, fC, fI, fD, nLC, neI, nDL, fun e => by (have e' : @Eq Nat H2.objs.size I := e); omega, fun e => by (have e' : @Eq Nat H2.objs.size s.heap.objs.size := e); omega, fun e => by (have e' : @Eq Nat s.heap.objs.size I := e); omega, ?_⟩
    exact S.frame z (fun a o e => ⟨σ.has a o e, k2 _ _ (k1 _ _ (σ.has a o e))⟩) fun o e => k2 _ _ (k1 _ _ e)
  generalize H2.objs.size = C at *
  generalize s.heap.objs.size = D at *
  clear hns₁ hsb₁ hH2 hC k1 k2 σ₁ gC fC nLC hI ltI hD0 gC'
  have loop : ∀ s₃ : Shared, Mid R V L m C I D [] (Z 0) s₃ →
      codeAny (model prog w) A (.compLoop (.ListComp elt [⟨.Name x px, iter, ifs, 0⟩] scope pos) 0 (.ref I) (.ref D) (compEnvC scope cl C env)) (RR (.ref D) C) s₃ := by
    intro s₃ M₀
    refine codeAny_compLoop_tests (fun k s' => ∃ (vs ys : List Value) (V' : View), k = n + 1 - vs.length ∧ vs.length ≤ n ∧ Mid R V' L m C I D ys (Z vs.length) s' ∧ Le V V' ∧ ys.length ≤ vs.length ∧
      (∀ i v, vs[i]? = some v → P i v) ∧ Inv (vs.filter p) ys V') ?_ (n + 1)
      ⟨[], [], _, rfl, Nat.zero_le _, M₀, Le.refl _, Nat.le_refl _, by simp, by simpa using i0⟩
    rintro k s' ⟨vs, ys, V', rfl, hi, M, hle, hyz, hP, hF⟩
    obtain ⟨fp, W, hfp⟩ := S.walk
    by_cases hlt : vs.length < n
    · refine W.item vs.length _ _ _ hlt M.it fun v h₂ tk₂ hPv z₂ hk₂ => ?_
      have kI : ∀ b o, b ≠ I → s'.heap.get? b = some o → h₂.get? b = some o := fun b o hb e => hk₂ b o (by simpa using hb) e
      have σa : St R V' L m { s' with heap := h₂, toks := tk₂ } := M.st.extBut (d := I) (fun b o hb e => kI b o hb e) M.goneI M.fI M.neI
      obtain ⟨mc, hmc⟩ := M.own
      obtain ⟨nn, hD⟩ := M.lst
      have hmc₂ : h₂.Ns C mc := hmc.extBut (b := I) (fun b o hb e => kI b o hb e) M.neCI
      refine wpAny_assign_Name (wpAny_storeName_local (env := compEnvC scope cl C env) (lookup_relabel_local hx) hmc₂ (fun h₃ hn₃ hs₃ => ?_) (by simp [compEnvC, relabel, hkind]))
      have σb : St R V' L m { s' with heap := h₃, toks := tk₂ + 1 } := σa.extBut (h' := h₃) (tk := tk₂ + 1) hs₃.extBut M.goneC M.fC M.neC
      have hD₃ : h₃.get? D = some (listOf ys.toArray nn) := hs₃.extBut _ _ M.neCD.symm (kI _ _ M.neDI hD)
      have zb : Z (vs.length + 1) h₃ := S.frame z₂ (fun a o e => ⟨σa.has a o (hle a o e), σb.has a o (hle a o e)⟩) fun o e => hs₃.extBut _ _ M.neCI.symm e
      obtain ⟨oI, hI⟩ := S.live _ _ zb
      obtain ⟨oL, hG, τ, back⟩ := σb.fence hn₃ M.goneC M.fC M.neC [(I, oI), (D, listOf ys.toArray nn)] (by simp [M.neDI.symm]) (fun q hq => by
        rcases List.mem_cons.mp hq with rfl | hq
        · exact ⟨hI, M.goneI, M.fI, M.neCI.symm, M.neI⟩
        · rw [List.mem_singleton.mp hq]; exact ⟨hD₃, M.goneD, M.fD, M.neCD.symm, M.neD⟩)
      have fin : ∀ V'' mc' s'', Le V' V'' → St (R.fence [(L, oL), (I, oI), (D, listOf ys.toArray nn)]) V'' C mc' s'' → Mid R V'' L m C I D ys (Z (vs.length + 1)) s'' := fun V'' mc' s'' hl τ' => by
        obtain ⟨b1, b2, b3⟩ := back _ _ _ τ'
        have bI := b2 (I, oI) (by simp)
        have bD := b2 (D, listOf ys.toArray nn) (by simp)
        refine ⟨b1, ⟨_, τ'.ns⟩, ⟨nn, bD.1⟩, b3, bI.2, bD.2, M.fC, M.fI, M.fD, M.neC, M.neI, M.neD, M.neCI, M.neCD, M.neDI, S.frame zb (fun a o e => ⟨σb.has a o (hle a o e), τ'.has a o (hl a o (hle a o e))⟩) fun o e => ?_⟩
        have e' : h₃.get? I = some o := e
        rw [hI] at e'; cases e'; exact bI.1
      have hP' : ∀ j u, (vs ++ [v])[j]? = some u → P j u := fun j u hj => by
        rcases Nat.lt_trichotomy j vs.length with h | h | h
        · exact hP j u (by rwa [List.getElem?_append_left h] at hj)
        · subst h; simp at hj; subst hj; exact hPv
        · have hnone : (vs ++ [v])[j]? = none := List.getElem?_eq_none (by rw [List.length_append, List.length_singleton]; omega)
          rw [hnone] at hj; cases hj
      refine wpAny_mono (tests _ V' C _ _ v vs.length (hG w) hle hPv τ (by simp)) (fun ok s₄ h₄ => ?_) fun _ _ e => e.elim
      obtain ⟨rfl, mc', hmv, τ₄⟩ := h₄
      cases hpv : p v with
      | false =>
        simp only [Bool.false_eq_true, if_false]
        exact ⟨n + 1 - (vs ++ [v]).length, by rw [List.length_append, List.length_singleton]; omega, vs ++ [v], ys, V', rfl, by rw [List.length_append, List.length_singleton]; exact hlt, by rw [List.length_append, List.length_singleton]; exact fin _ _ _ (Le.refl _) τ₄, hle, by rw [List.length_append]; omega, hP', by rw [List.filter_append]; simpa [hpv] using hF⟩
      | true =>
        simp only [if_true]
        refine wpAny_mono (helt _ V' C _ _ v vs.length _ _ (hG w) hle hPv hpv τ₄ hmv hF fun hp => by rw [List.filter_eq_self.mpr fun a _ => hp a]) (fun y s₅ h₅ => ?_) fun _ _ e => e.elim
        obtain ⟨V'', mc'', hl, hFy, τ₅⟩ := h₅
        have M₅ := fin _ _ _ hl τ₅
        obtain ⟨mc₅, hmc₅⟩ := M₅.own
        obtain ⟨nn₅, hD₅⟩ := M₅.lst
        have σ₅ := M₅.st.addNew M₅.goneD M₅.fD M₅.neD hD₅
        obtain ⟨oI₅, hI₅⟩ := S.live _ _ M₅.it
        obtain ⟨oL', hG', τ', back'⟩ := σ₅.fence hmc₅ (Gone.upd M.neCD M₅.goneC) M.fC M.neC [(I, oI₅)] (by simp) (fun q hq => by
          rw [List.mem_singleton.mp hq]; exact ⟨hI₅, Gone.upd M.neDI.symm M₅.goneI, M.fI, M.neCI.symm, M.neI⟩)
        refine wpAny_mono (Q := fun _ s₆ => Mid R V'' L m C I D (ys ++ [y]) (Z (vs.length + 1)) s₆) (E := NoE) ?_ (fun _ s₆ M₆ => ?_) fun _ _ e => e.elim
        · refine lsAppend τ' upd_same (by omega) fun s₆ n' τ₆ => ?_
          obtain ⟨b1, b2, b3⟩ := back' _ _ _ τ₆
          have bI := b2 (I, oI₅) (by simp)
          have hlu : Le V'' (upd (upd V'' D (listOf ys.toArray nn₅)) D (listOf (ys ++ [y]).toArray n')) := Le.upd M₅.goneD (Le.upd M₅.goneD (Le.refl _))
          refine ⟨b1.weaken hlu, ⟨_, τ₆.ns⟩, ⟨n', τ₆.has _ _ upd_same⟩, M₅.goneC, M₅.goneI, M₅.goneD, M.fC, M.fI, M.fD, M.neC, M.neI, M.neD, M.neCI, M.neCD, M.neDI, S.frame M₅.it (fun a o e => ⟨M₅.st.has a o (hl a o (hle a o e)), τ₆.has a o (hlu _ _ (hl a o (hle a o e)))⟩) fun o e => ?_⟩
          rw [hI₅] at e; cases e; exact bI.1
        · refine ⟨n + 1 - (vs ++ [v]).length, by rw [List.length_append, List.length_singleton]; omega, vs ++ [v], ys ++ [y], V'', rfl, by rw [List.length_append, List.length_singleton]; exact hlt, by rw [List.length_append, List.length_singleton]; exact M₆, Le.trans hle hl, by simp only [List.length_append, List.length_singleton]; omega, hP', ?_⟩
          rw [List.filter_append]; simpa [hpv] using hFy
    · have hin : vs.length = n := by omega
      refine W.done _ _ _ (hin ▸ M.it) fun h₂ tk₂ hk₂ => ?_
      have kI : ∀ b o, b ≠ I → s'.heap.get? b = some o → h₂.get? b = some o := fun b o hb e => hk₂ b o (by simpa using hb) e
      have σa : St R V' L m { s' with heap := h₂, toks := tk₂ } := M.st.extBut (d := I) (fun b o hb e => kI b o hb e) M.goneI M.fI M.neI
      obtain ⟨mc, hmc⟩ := M.own
      obtain ⟨nn, hD⟩ := M.lst
      have hmc₂ : h₂.Ns C mc := hmc.extBut (b := I) (fun b o hb e => kI b o hb e) M.neCI
      have σc := σa.addNew M.goneD M.fD M.neD (kI _ _ M.neDI hD)
      exact hRR _ D C nn ys vs _ mc (Le.upd gD hle) gD upd_same hin hP (mono _ _ _ _ (Le.upd M.goneD (Le.refl _)) hF) σc hmc₂ (Gone.upd M.neCD M.goneC) M.fC M.neC
  refine codeAny_compStart_list (loop _ M0) ?_
  obtain ⟨fp, W, hfp⟩ := S.walk
  exact W.self 0 _ _ _ M0.it (loop _ M0)
end

/-! ## part Cmp2 -/

/-! ## what `iter` of a value walks -/
def Walked (prog : Program) (w : World) (A : Around) (V : View) (xv : Value) (n : Nat) (P : Nat → Value → Prop) : Prop :=
  ∀ (R : Rest) (V' : View) (L : Addr) (m : Str → Option Value) (s : Shared) (E : Value → Shared → Prop) (Q : Value → Shared → Prop), Le V V' → St R V' L m s →
    (∀ I Z s', Src prog w A V I n P Z → Z 0 s'.heap → Gone V' I → R.F I = none → I ≠ L → St R V' L m s' → Q (.ref I) s') → wpAny (model prog w) A (pyIter xv) Q E s

section
variable {prog : Program} {w : World} {A : Around} {V : View}
theorem wkList {l : Addr} {vs : List Value} {n : Nat} (hA : A.handled = none) (hl : V l = some (listOf vs.toArray n)) : Walked prog w A V (.ref l) vs.length (fun i v => vs[i]? = some v) := by
  intro R V' L m s E Q le σ h
  have hl' := le.at hl
  have τ := σ.push (tk := s.toks) (o := { cls := .type "list_iterator", data := .fields #[.ref l, .int 0 0] })
  refine wpAny_pyIter_list (σ.isList hl') ?_
  refine h s.heap.objs.size (fun i h => h.IsListIter s.heap.objs.size l i ∧ h.IsList l vs.toArray) _ ⟨⟨[s.heap.objs.size, l], ?_, ?_⟩, ?_⟩ ⟨⟨_, Heap.get?_push_size _ rfl, rfl, rfl⟩, τ.isList (upd_keep σ.fresh hl')⟩ σ.fresh σ.freshF (Nat.ne_of_gt σ.ns.lt) (τ.weaken (Le.upd σ.fresh (Le.refl _)))
  · have := Walks.list (prog := prog) (w := w) hA s.heap.objs.size l (ne_fresh σ.fresh hl') vs.toArray
    rw [List.size_toArray] at this
    simpa using this
  · intro b hb
    simp only [List.mem_cons, List.mem_singleton, List.not_mem_nil, or_false] at hb
    rcases hb with rfl | rfl
    · exact .inl rfl
    · exact .inr ⟨_, hl⟩
  · rintro i h' ⟨⟨o, ho, _⟩, _⟩
    exact ⟨o, ho⟩

abbrev rngOf (a b c : Int) (t u v : Tok) : Obj := { cls := .type "range", dict := none, data := .fields #[.int a t, .int b u, .int c v], slots := #[] }
theorem wkRange {r : Addr} {a b c : Int} {t u v : Tok} {n : Nat} (hA : A.handled = none) (hr : V r = some (rngOf a b c t u v)) (hsmall : Builtin.Range.small a b c = true) (hn : Builtin.Range.rangeSize a b c = (n : Int)) :
    Walked prog w A V (.ref r) n (fun i v => ∃ t, v = .int (a + i * c) t) := by
  intro R V' L m s E Q le σ h
  have hr' := le.at hr
  have τ := σ.push (tk := s.toks) (o := { cls := .type "range_iterator", data := .fields #[rawInt a, rawInt (Builtin.Range.rangeSize a b c), rawInt c] })
  refine wpAny_pyIter_range (σ.has _ _ hr') hsmall ?_
  refine h s.heap.objs.size (fun i h => IsRangeIter h s.heap.objs.size (a + (i : Nat) * c) ((n : Int) - (i : Nat)) c) _ ⟨⟨[s.heap.objs.size], Walks.range hA _ a c n, ?_⟩, ?_⟩ ?_ σ.fresh σ.freshF (Nat.ne_of_gt σ.ns.lt) (τ.weaken (Le.upd σ.fresh (Le.refl _)))
  · intro b hb
    exact .inl (List.mem_singleton.mp hb)
  · rintro i h' z
    exact ⟨_, z⟩
  · have := Heap.get?_push_size s.heap (o := { cls := .type "range_iterator", data := .fields #[rawInt a, rawInt (Builtin.Range.rangeSize a b c), rawInt c] }) rfl
    rw [hn] at this ⊢
    show IsRangeIter _ _ _ _ _
    simpa using this

theorem wkStr {x : Str} {t : Tok} (hA : A.handled = none) : Walked prog w A V (.str x t) x.cps.size (SignAt x) := by
  intro R V' L m s E Q le σ h
  cases ha : x.cps.all (· < 128)
  · refine wpAny_pyIter_wide ha ?_
    refine h s.heap.objs.size (fun i h => h.IsStrIter s.heap.objs.size "str_iterator" x t i) _ ⟨⟨_, Walks.strWide hA _ x t, fun b hb => .inl (List.mem_singleton.mp hb)⟩, ?_⟩ ⟨_, Heap.get?_push_size _ rfl, rfl, rfl⟩ σ.fresh σ.freshF (Nat.ne_of_gt σ.ns.lt) ((σ.push).weaken (Le.upd σ.fresh (Le.refl _)))
    rintro i h' ⟨o, ho, _⟩; exact ⟨o, ho⟩
  · refine wpAny_pyIter_ascii ha ?_
    refine h s.heap.objs.size (fun i h => h.IsStrIter s.heap.objs.size "str_ascii_iterator" x t i) _ ⟨⟨_, Walks.strAscii hA _ x t, fun b hb => .inl (List.mem_singleton.mp hb)⟩, ?_⟩ ⟨_, Heap.get?_push_size _ rfl, rfl, rfl⟩ σ.fresh σ.freshF (Nat.ne_of_gt σ.ns.lt) ((σ.push).weaken (Le.upd σ.fresh (Le.refl _)))
    rintro i h' ⟨o, ho, _⟩; exact ⟨o, ho⟩
theorem Walked.mono {V' : View} {xv : Value} {n : Nat} {P : Nat → Value → Prop} (W : Walked prog w A V xv n P) (le : Le V V') : ∀ (R : Rest) (L : Addr) (m : Str → Option Value) (s : Shared) (E : Value → Shared → Prop) (Q : Value → Shared → Prop), St R V' L m s →
    (∀ I Z s', Src prog w A V I n P Z → Z 0 s'.heap → Gone V' I → R.F I = none → I ≠ L → St R V' L m s' → Q (.ref I) s') → wpAny (model prog w) A (pyIter xv) Q E s := fun R L m s E Q σ h => W R V' L m s E Q le σ h
end

/-! ## comprehensions -/
def CompK (prog : Program) (w : World) (A : Around) (elt : PySem.Expr) (x : Str) (px : Pos) (iter : PySem.Expr) (ifs : List PySem.Expr) (scope : Scope) (cl : List (Str × Addr)) (pos : Pos) (env : Env) (use : Option (Value → Sem Unit)) (Q : Value → Shared → Prop) (xv : Value) (s : Shared) : Prop :=
  wpAny (model prog w) A (pyIter xv) (fun it s₂ => wpAny (model prog w) A (newList []) (fun acc s₃ =>
      wpAny (model prog w) A (newFunctionEnv scope env.globals cl [] env.qual none .none (some env)) (fun cenv s₄ =>
        codeAny (model prog w) A (.compStart (.ListComp elt [⟨.Name x px, iter, ifs, 0⟩] scope pos) 0 it acc { cenv with scope := relabel scope env }) (compPost (model prog w) A NoE use Q acc cenv.locals) s₄) NoE s₃) NoE s₂) NoE s

section
variable {prog : Program} {w : World} {A : Around} {R : Rest} {V : View} {L : Addr} {m : Str → Option Value} {s : Shared} {n : Nat} {P : Nat → Value → Prop} {env : Env} {xv : Value}
  {elt iter : PySem.Expr} {x : Str} {px : Pos} {ifs : List PySem.Expr} {scope : Scope} {cl : List (Str × Addr)} {pos : Pos}

theorem compEval {Q : Value → Shared → Prop} (hclos : closureFor scope env = pure cl) (hkind : scope.kind = .function) (hnames : ∀ y ∈ scope.names, y.2 = .local → scope.names.lookup y.1 = some .local)
    (h : wpAny (model prog w) A (eval iter env) (fun xv s₁ => CompK prog w A elt x px iter ifs scope cl pos env none Q xv s₁) NoE s)
    (hs : ∀ x, foldedSetIterable iter env x = pure x := by intro _; rfl) :
    wpAny (model prog w) A (eval (.ListComp elt [⟨.Name x px, iter, ifs, 0⟩] scope pos) env) Q NoE s := by
  rw [eval_ListComp]
  exact wpAny_comprehension_free (use := none) rfl hs hclos hkind hnames h

theorem compAssign {y : Str} {py spos : Pos} {Q : Flow → Shared → Prop}
    (hsw : swapsWith (.ListComp elt [⟨.Name x px, iter, ifs, 0⟩] scope pos) (some (.Name y py)) spos.line env = pure true)
    (hclos : closureFor scope env = pure cl) (hkind : scope.kind = .function) (hnames : ∀ y ∈ scope.names, y.2 = .local → scope.names.lookup y.1 = some .local)
    (h : wpAny (model prog w) A (eval iter env) (fun xv s₁ => CompK prog w A elt x px iter ifs scope cl pos env (some (assign (.Name y py) env)) (fun _ s' => Q .next s') xv s₁) NoE s)
    (hs : ∀ x, foldedSetIterable iter env x = pure x := by intro _; rfl) :
    wpAny (model prog w) A (exec (.Assign [.Name y py] (.ListComp elt [⟨.Name x px, iter, ifs, 0⟩] scope pos) spos) env) Q NoE s := by
  rw [exec_Assign_Name_used _ _ _ _ hsw]
  refine wpAny_bind (wpAny_standAt (wpAny_bind ?_))
  show wpAny _ A (do let _ ← comprehension (.ListComp elt [⟨.Name x px, iter, ifs, 0⟩] scope pos) scope env _ (newList []) false (eval iter env) (some (assign (.Name y py) env))) _ _ s
  exact wpAny_bind (wpAny_mono (wpAny_comprehension_free (use := some (assign (.Name y py) env)) (Q := fun _ s' => Q .next s') rfl hs hclos hkind hnames h)
    (fun _ s' hq => wpAny_pure (wpAny_pure hq)) fun _ _ e => e)

theorem compKI {Q : Value → Shared → Prop} (σ : St R V L m s) (W : Walked prog w A V xv n P) (hn : n ≤ 1000) (p : Value → Bool) (Inv : List Value → List Value → View → Prop) (mono : ∀ vs ys V V', Le V V' → Inv vs ys V → Inv vs ys V') (i0 : Inv [] [] V)
    (hcell : ∀ y ∈ scope.names, y.2 ≠ .cell) (hkind : scope.kind = .function) (hx : scope.names.lookup x = some .local)
    (tests : ∀ R' V' C mc s' v i, (Gd w R → Gd w R') → Le V V' → P i v → St R' V' C mc s' → mc x = some v →
      wpAny (model prog w) A (ifsTree ifs (compEnvC scope cl C env)) (fun ok s'' => ok = p v ∧ ∃ mc', mc' x = some v ∧ St R' V' C mc' s'') NoE s')
    (helt : ∀ R' V' C mc s' v i vs ys, (Gd w R → Gd w R') → Le V V' → P i v → p v = true → St R' V' C mc s' → mc x = some v → Inv vs ys V' → ((∀ u, p u = true) → vs.length = i) →
      wpAny (model prog w) A (eval elt (compEnvC scope cl C env)) (fun y s'' => ∃ V'' mc', Le V' V'' ∧ Inv (vs ++ [v]) (ys ++ [y]) V'' ∧ St R' V'' C mc' s'') NoE s')
    (hQ : ∀ V' D nn ys (vs : List Value) s', Le V V' → Gone V D → V' D = some (listOf ys.toArray nn) → vs.length = n → (∀ i v, vs[i]? = some v → P i v) → Inv (vs.filter p) ys V' → St R V' L m s' → Q (.ref D) s') :
    CompK prog w A elt x px iter ifs scope cl pos env none Q xv s := by
  refine W R V L m s _ _ (Le.refl _) σ fun I Z s' S z gI fI neI τ => ?_
  refine compCore (RR := fun acc C => compPost (model prog w) A NoE none Q acc C) τ S z gI fI neI hn p Inv mono i0 hcell hkind hx tests helt ?_
  intro V' D C nn ys vs s'' mc hle hD hVD hlen hP hF σ' hmc gC fC neC
  exact ⟨mc, hmc, fun h' hs' => hQ V' D nn ys vs _ hle hD hVD hlen hP hF (σ'.extBut hs'.extBut gC fC neC)⟩

theorem compK {Q : Value → Shared → Prop} (σ : St R V L m s) (W : Walked prog w A V xv n P) (hn : n ≤ 1000) (p : Value → Bool) (F : Value → Value → View → Prop) (mono : ∀ v y V V', Le V V' → F v y V → F v y V')
    (hcell : ∀ y ∈ scope.names, y.2 ≠ .cell) (hkind : scope.kind = .function) (hx : scope.names.lookup x = some .local)
    (tests : ∀ R' V' C mc s' v i, (Gd w R → Gd w R') → Le V V' → P i v → St R' V' C mc s' → mc x = some v →
      wpAny (model prog w) A (ifsTree ifs (compEnvC scope cl C env)) (fun ok s'' => ok = p v ∧ ∃ mc', mc' x = some v ∧ St R' V' C mc' s'') NoE s')
    (helt : ∀ R' V' C mc s' v i, (Gd w R → Gd w R') → Le V V' → P i v → p v = true → St R' V' C mc s' → mc x = some v →
      wpAny (model prog w) A (eval elt (compEnvC scope cl C env)) (fun y s'' => ∃ V'' mc', Le V' V'' ∧ F v y V'' ∧ St R' V'' C mc' s'') NoE s')
    (hQ : ∀ V' D nn ys (vs : List Value) s', Le V V' → Gone V D → V' D = some (listOf ys.toArray nn) → vs.length = n → (∀ i v, vs[i]? = some v → P i v) → Paired (fun v y => F v y V') (vs.filter p) ys → St R V' L m s' → Q (.ref D) s') :
    CompK prog w A elt x px iter ifs scope cl pos env none Q xv s := by
  refine compKI σ W hn p (fun vs ys V => Paired (fun v y => F v y V) vs ys) (fun vs ys V V' hle h => h.mono fun v y h => mono _ _ _ _ hle h) .nil hcell hkind hx tests ?_ hQ
  intro R' V' C mc s' v i vs ys hG hle hP hp σ' hm hI _
  refine wpAny_mono (helt R' V' C mc s' v i hG hle hP hp σ' hm) (fun y s'' h => ?_) fun _ _ e => e
  obtain ⟨V'', mc', hl, hF, σ''⟩ := h
  exact ⟨V'', mc', hl, Paired.snoc (hI.mono fun v y h => mono _ _ _ _ hl h) hF, σ''⟩

theorem compKUseI {Q : Flow → Shared → Prop} {y : Str} {py : Pos} (σ : St R V L m s) (W : Walked prog w A V xv n P) (hn : n ≤ 1000) (p : Value → Bool) (Inv : List Value → List Value → View → Prop) (mono : ∀ vs ys V V', Le V V' → Inv vs ys V → Inv vs ys V') (i0 : Inv [] [] V)
    (hcell : ∀ y ∈ scope.names, y.2 ≠ .cell) (hkind : scope.kind = .function) (hx : scope.names.lookup x = some .local) (hL : env.locals = L) (hk : env.scope.kind = .function) (hl : env.kindOf y = some .local)
    (tests : ∀ R' V' C mc s' v i, (Gd w R → Gd w R') → Le V V' → P i v → St R' V' C mc s' → mc x = some v →
      wpAny (model prog w) A (ifsTree ifs (compEnvC scope cl C env)) (fun ok s'' => ok = p v ∧ ∃ mc', mc' x = some v ∧ St R' V' C mc' s'') NoE s')
    (helt : ∀ R' V' C mc s' v i vs ys, (Gd w R → Gd w R') → Le V V' → P i v → p v = true → St R' V' C mc s' → mc x = some v → Inv vs ys V' → ((∀ u, p u = true) → vs.length = i) →
      wpAny (model prog w) A (eval elt (compEnvC scope cl C env)) (fun y s'' => ∃ V'' mc', Le V' V'' ∧ Inv (vs ++ [v]) (ys ++ [y]) V'' ∧ St R' V'' C mc' s'') NoE s')
    (hQ : ∀ V' D nn ys (vs : List Value) s', Le V V' → Gone V D → V' D = some (listOf ys.toArray nn) → vs.length = n → (∀ i v, vs[i]? = some v → P i v) → Inv (vs.filter p) ys V' → St R V' L (setm m y (.ref D)) s' → Q .next s') :
    CompK prog w A elt x px iter ifs scope cl pos env (some (assign (.Name y py) env)) (fun _ s' => Q .next s') xv s := by
  refine W R V L m s _ _ (Le.refl _) σ fun I Z s' S z gI fI neI τ => ?_
  refine compCore (RR := fun acc C => compPost (model prog w) A NoE (some (assign (.Name y py) env)) (fun _ s' => Q .next s') acc C) τ S z gI fI neI hn p Inv mono i0 hcell hkind hx tests helt ?_
  intro V' D C nn ys vs s'' mc hle hD hVD hlen hP hF σ' hmc gC fC neC
  subst hL
  refine wpAny_assign_Name (wpAny_storeName_local hl σ'.ns (fun h' hn' hs' => ?_) (by rw [hk]; rfl))
  refine ⟨mc, hmc.sameBut hs' neC, fun h'' hs'' => ?_⟩
  exact hQ V' D nn ys vs _ hle hD hVD hlen hP hF ((σ'.setLocals (tk := s''.toks + 1) hn' hs').extBut (h' := h'') hs''.extBut gC fC neC)
theorem compKUse {Q : Flow → Shared → Prop} {y : Str} {py : Pos} (σ : St R V L m s) (W : Walked prog w A V xv n P) (hn : n ≤ 1000) (p : Value → Bool) (F : Value → Value → View → Prop) (mono : ∀ v y V V', Le V V' → F v y V → F v y V')
    (hcell : ∀ y ∈ scope.names, y.2 ≠ .cell) (hkind : scope.kind = .function) (hx : scope.names.lookup x = some .local) (hL : env.locals = L) (hk : env.scope.kind = .function) (hl : env.kindOf y = some .local)
    (tests : ∀ R' V' C mc s' v i, (Gd w R → Gd w R') → Le V V' → P i v → St R' V' C mc s' → mc x = some v →
      wpAny (model prog w) A (ifsTree ifs (compEnvC scope cl C env)) (fun ok s'' => ok = p v ∧ ∃ mc', mc' x = some v ∧ St R' V' C mc' s'') NoE s')
    (helt : ∀ R' V' C mc s' v i, (Gd w R → Gd w R') → Le V V' → P i v → p v = true → St R' V' C mc s' → mc x = some v →
      wpAny (model prog w) A (eval elt (compEnvC scope cl C env)) (fun y s'' => ∃ V'' mc', Le V' V'' ∧ F v y V'' ∧ St R' V'' C mc' s'') NoE s')
    (hQ : ∀ V' D nn ys (vs : List Value) s', Le V V' → Gone V D → V' D = some (listOf ys.toArray nn) → vs.length = n → (∀ i v, vs[i]? = some v → P i v) → Paired (fun v y => F v y V') (vs.filter p) ys → St R V' L (setm m y (.ref D)) s' → Q .next s') :
    CompK prog w A elt x px iter ifs scope cl pos env (some (assign (.Name y py) env)) (fun _ s' => Q .next s') xv s := by
  refine compKUseI σ W hn p (fun vs ys V => Paired (fun v y => F v y V) vs ys) (fun vs ys V V' hle h => h.mono fun v y h => mono _ _ _ _ hle h) .nil hcell hkind hx hL hk hl tests ?_ hQ
  intro R' V' C mc s' v i vs ys hG hle hP hp σ' hm hI _
  refine wpAny_mono (helt R' V' C mc s' v i hG hle hP hp σ' hm) (fun y s'' h => ?_) fun _ _ e => e
  obtain ⟨V'', mc', hl, hF, σ''⟩ := h
  exact ⟨V'', mc', hl, Paired.snoc (hI.mono fun v y h => mono _ _ _ _ hl h) hF, σ''⟩

end

/-! ## for loops -/
section
variable {prog : Program} {w : World} {A : Around} {R : Rest} {V Vs : View} {L I : Addr} {m : Str → Option Value} {s : Shared} {n : Nat} {P : Nat → Value → Prop} {Z : Nat → Heap → Prop} {env : Env}
  {target : PySem.Expr} {body : List Stmt} {xv : Value}
/-- one object fenced, and back -/
theorem St.fence1 (σ : St R V L m s) {I : Addr} {oI : Obj} (hI : s.heap.get? I = some oI) (gI : Gone V I) (fI : R.F I = none) (neI : I ≠ L) :
    (∀ w, Gd w R → Gd w (R.fence [(I, oI)])) ∧ St (R.fence [(I, oI)]) V L m s ∧
      ∀ V' m' s', St (R.fence [(I, oI)]) V' L m' s' → St R V' L m' s' ∧ s'.heap.get? I = some oI ∧ Gone V' I := by
  have hF : ∀ a, a ≠ I → (R.fence [(I, oI)]).F a = R.F a := fun a h => by
    show (([(I, oI)] : List (Addr × Obj)).lookup a).or (R.F a) = R.F a
    rw [lookup_none_of (by intro p hp; rw [List.mem_singleton.mp hp]; exact h.symm)]; rfl
  have hFI : (R.fence [(I, oI)]).F I = some oI := by
    show (([(I, oI)] : List (Addr × Obj)).lookup I).or (R.F I) = some oI
    simp
  refine ⟨fun w G => G.fence fun p hp => by rw [List.mem_singleton.mp hp]; exact fI, ⟨σ.ns, σ.has, σ.off, fun a o e => ?_, fun a o e => ?_, ?_, σ.gens, σ.os⟩, fun V' m' s' τ => ?_⟩
  · by_cases q : a = I
    · subst q; rw [hFI] at e; cases e; exact hI
    · rw [hF a q] at e; exact σ.keep a o e
  · rw [hF a (ne_fresh gI e)]; exact σ.disj a o e
  · rw [hF L neI.symm]; exact σ.offF
  · have gone : V' I = none := by
      cases q : V' I with
      | none => rfl
      | some o => have := τ.disj _ _ q; rw [hFI] at this; cases this
    refine ⟨⟨τ.ns, τ.has, τ.off, fun a o e => τ.keep a o ?_, fun a o e => ?_, σ.offF, τ.gens, τ.os⟩, τ.keep _ _ hFI, ⟨gone⟩⟩
    · rw [hF a (by rintro rfl; rw [fI] at e; cases e)]; exact e
    · have := τ.disj a o e
      rwa [hF a (by rintro rfl; rw [gone] at e; cases e)] at this

theorem forWalk {RR : Result → Shared → Prop} (σ : St R V L m s) (S : Src prog w A Vs I n P Z) (z : Z 0 s.heap) (gI : Gone V I) (fI : R.F I = none) (neI : I ≠ L)
    (J : Nat → View → (Str → Option Value) → Prop) (hJ : ∀ i V' m', J i V' m' → Le Vs V') (h0 : J 0 V m)
    (step : ∀ R' V' m' s' i v, (Gd w R → Gd w R') → (∀ V' m' s', St R' V' L m' s' → St R V' L m' s') → P i v → i < n → J i V' m' → St R' V' L m' s' →
      wpAny (model prog w) A (assign target env v) (fun _ s₁ => wpAny (model prog w) A (execs body env) (fun f s₂ => match f with
        | .next => ∃ V'' m'', J (i + 1) V'' m'' ∧ St R' V'' L m'' s₂
        | .ret v => RR (.ok (.ret v)) s₂
        | _ => False) NoE s₁) NoE s')
    (done : ∀ V' m' s', J n V' m' → St R V' L m' s' → RR (.ok .next) s') (ht : ∀ v, letOwnedTupleGo target (.ref I) v = pure () := by intro _; rfl) :
    codeAny (model prog w) A (.forLoop target (.ref I) body [] env) RR s := by
  refine codeAny_forLoop (fun k s' => ∃ i V' m', k = n + 1 - i ∧ i ≤ n ∧ St R V' L m' s' ∧ Gone V' I ∧ Z i s'.heap ∧ J i V' m') ?_ (n + 1) ⟨0, V, m, rfl, Nat.zero_le _, σ, gI, z, h0⟩ ht
  rintro k s' ⟨i, V', m', rfl, hi, τ, g, zi, j⟩
  obtain ⟨fp, W, hfp⟩ := S.walk
  by_cases hlt : i < n
  · refine W.item i _ _ _ hlt zi fun v h₂ tk₂ hPv z₂ hk₂ => ?_
    have kI : ∀ b o, b ≠ I → s'.heap.get? b = some o → h₂.get? b = some o := fun b o hb e => hk₂ b o (by simpa using hb) e
    have σa : St R V' L m' { s' with heap := h₂, toks := tk₂ } := τ.extBut (d := I) (fun b o hb e => kI b o hb e) g fI neI
    obtain ⟨oI, hI⟩ := S.live _ _ z₂
    obtain ⟨hG, σb, back⟩ := σa.fence1 hI g fI neI
    refine wpAny_mono (step _ V' m' _ i v (hG w) (fun V' m' s' σ' => (back V' m' s' σ').1) hPv hlt j σb) (fun _ s₁ h₁ => ?_) fun _ _ e => e.elim
    refine wpAny_mono h₁ (fun f s₂ h₂ => ?_) fun _ _ e => e.elim
    cases f with
    | next =>
      obtain ⟨V'', m'', j', σ'⟩ := h₂
      obtain ⟨b1, b2, b3⟩ := back _ _ _ σ'
      refine ⟨n + 1 - (i + 1), by omega, i + 1, V'', m'', rfl, hlt, b1, b3, ?_, j'⟩
      refine S.frame z₂ (fun a o e => ⟨σb.has a o (hJ _ _ _ j a o e), σ'.has a o (hJ _ _ _ j' a o e)⟩) fun o e => ?_
      have e' : h₂.get? I = some o := e
      rw [hI] at e'; cases e'; exact b2
    | cont => exact h₂.elim
    | brk => exact h₂.elim
    | ret v => exact h₂
  · have hin : i = n := by omega
    subst hin
    refine W.done _ _ _ zi fun h₂ tk₂ hk₂ => wpAny_execs_nil ?_
    have kI : ∀ b o, b ≠ I → s'.heap.get? b = some o → h₂.get? b = some o := fun b o hb e => hk₂ b o (by simpa using hb) e
    exact done V' m' _ j (τ.extBut (d := I) (fun b o hb e => kI b o hb e) g fI neI)

def ForK (prog : Program) (w : World) (A : Around) (target : PySem.Expr) (body : List Stmt) (env : Env) (Q : Flow → Shared → Prop) (xv : Value) (s : Shared) : Prop :=
  wpAny (model prog w) A (pyIter xv) (fun it s₂ => codeAny (model prog w) A (.forLoop target it body [] env) (fun r s' => match r with | .ok f => Q f s' | .error e => cameBackBy (model prog w) A env NoE e s') s₂) NoE s
theorem forGo {iter : PySem.Expr} {pos : Pos} {Q : Flow → Shared → Prop} (h : wpAny (model prog w) A (eval iter env) (fun xv s₁ => ForK prog w A target body env Q xv s₁) NoE s) (hs : ∀ x, foldedSetIterable iter env x = pure x := by intro _; rfl) :
    wpAny (model prog w) A (exec (.For target iter body [] pos) env) Q NoE s := wpAny_For h hs
theorem forK {Q : Flow → Shared → Prop} (σ : St R V L m s) (W : Walked prog w A Vs xv n P) (hle : Le Vs V)
    (J : Nat → View → (Str → Option Value) → Prop) (hJ : ∀ i V' m', J i V' m' → Le Vs V') (h0 : J 0 V m)
    (step : ∀ R' V' m' s' i v, (Gd w R → Gd w R') → (∀ V' m' s', St R' V' L m' s' → St R V' L m' s') → P i v → i < n → J i V' m' → St R' V' L m' s' →
      wpAny (model prog w) A (assign target env v) (fun _ s₁ => wpAny (model prog w) A (execs body env) (fun f s₂ => match f with
        | .next => ∃ V'' m'', J (i + 1) V'' m'' ∧ St R' V'' L m'' s₂
        | .ret v => Q (.ret v) s₂
        | _ => False) NoE s₁) NoE s')
    (done : ∀ V' m' s', J n V' m' → St R V' L m' s' → Q .next s') (ht : ∀ I v, letOwnedTupleGo target (.ref I) v = pure () := by intro _ _; rfl) :
    ForK prog w A target body env Q xv s := by
  refine W.mono hle R L m s _ _ σ fun I Z s' S z gI fI neI τ => ?_
  exact forWalk τ S z gI fI neI J hJ h0 step done (ht I)
end

/-! ## part Rul3 -/

/-- the view with cells laid over it -/
def withCells (V : View) (h : Heap) (cs : List (Str × Addr)) : View := fun a => if a ∈ cs.map (·.2) then h.get? a else V a

section
variable {prog : Program} {w : World} {A : Around} {R : Rest} {V : View} {L : Addr} {m : Str → Option Value} {s : Shared} {Q : Value → Shared → Prop}

theorem codeDefC (G : Gd w R) (σ : St R V L m s) {RR : Result → Shared → Prop} {name qual : Str} {params : Arguments} {body : List Stmt} {scope : Scope} {dV kV doc pm cdv ct oc : Value} {an od : Option Addr} {osl : Array (Option Value)} {f : Addr} {args : List Value} {binds : List (Str × Value)}
    (ho : (Kx w).lookup f = some ⟨oc, od, .func (fnOf name qual params body scope dV kV doc pm an cdv ct), osl⟩) (hcd : codeIn (Kx w) cdv qual = true) (hroom : A.depth < 900) (hA : A.handled = none)
    (hbind : bindArgs (fnOf name qual params body scope dV kV doc pm an cdv ct) ⟨args, []⟩ = pure binds)
    (hkind : ∀ L', ∀ x ∈ binds, scope.names.lookup x.1 = some .local ∨ (scope.names.lookup x.1 = some .cell ∧ ((cellsFrom (L' + 1) scope.names []).lookup x.1).isSome = true))
    (hco : scope.isCoroutine = false) (hgen : scope.isGenerator = false) (hk : scope.kind = .function)
    (h : ∀ (R' : Rest) (A' : Around) (L' : Addr) (V₁ : View) (s₁ : Shared), Gd w R' → A'.handled = none → A'.depth = A.depth + 1 → A'.units = A.units + 3 → (∀ V' m' s', St R' V' L' m' s' → St R V' L m s') → Le V V₁ →
      (∀ n c, (cellsFrom (L' + 1) scope.names []).lookup n = some c → Gone V c ∧ ∃ o, V₁ c = some o ∧ o.data = .cell (bindC (envOfC qual scope L' f cdv).kindOf binds (fun _ => none) n)) →
      (cellsFrom (L' + 1) scope.names []).Pairwise (fun x y => x.2 ≠ y.2) →
      St R' V₁ L' (bindL (envOfC qual scope L' f cdv).kindOf binds fun _ => none) s₁ →
      wpAny (model prog w) A' (execs body (envOfC qual scope L' f cdv)) (fun fl s' => RR (.ok (.ret (retOf fl))) s') NoE s₁) :
    codeAny (model prog w) A (.call (.ref f) ⟨args, []⟩) RR s := by
  refine codeAny_call_cells (fd := fnOf name qual params body scope dV kV doc pm an cdv ct) (body := body) (binds := binds) (Nat.lt_trans hroom (by decide)) ((G.K σ) _ _ ho) rfl (G.nolimit σ) (codeRec_of (G.K σ) hcd) rfl hbind rfl (fun x hx => hkind _ x hx) (fun s₁ x => ?_) hco hgen hk
  obtain ⟨⟨⟨h₁, tk, rfl⟩, hns, hk₁, hfr⟩, hcell, hap, hab⟩ := x
  dsimp only at hns hk₁ hcell
  obtain ⟨oL, es, ep, hL, hLd, hLk, hLf⟩ := σ.ns
  have hfl : ∀ a o, (upd R.F L oL) a = some o → s.heap.get? a = some o := fun a o e => by
    by_cases q : a = L
    · subst q; rw [upd_same] at e; cases e; exact hL
    · simp only [upd_at, if_neg q] at e; exact σ.keep a o e
  let R' : Rest := ⟨upd R.F L oL, R.gens, R.os⟩
  have G' : Gd w R' := by
    obtain ⟨hb, mg, mb, h1, T, X⟩ := G.top
    exact ⟨hb, mg, mb, fun a o e => upd_keep ⟨σ.offF⟩ (h1 a o e), T, X⟩
  have hmem : ∀ c, c ∈ (cellsFrom (s.heap.objs.size + 1) scope.names []).map (·.2) → s.heap.objs.size < c := fun c hc => by
    obtain ⟨p, hp, rfl⟩ := List.mem_map.mp hc
    exact hab p.1 p.2 hp
  have hgt : ∀ c, s.heap.objs.size ≤ c → s.heap.get? c = none := fun c hc => by
    cases q : s.heap.get? c with
    | none => rfl
    | some o => exact absurd (Heap.lt_size q) (Nat.not_lt.mpr hc)
  have hgV : ∀ c, s.heap.objs.size ≤ c → Gone V c := fun c hc => ⟨by
    cases q : V c with
    | none => rfl
    | some o => have := σ.has c o q; rw [hgt c hc] at this; cases this⟩
  have hgF : ∀ c, s.heap.objs.size ≤ c → R.F c = none := fun c hc => by
    cases q : R.F c with
    | none => rfl
    | some o => have := σ.keep c o q; rw [hgt c hc] at this; cases this
  have hLlt : L < s.heap.objs.size := Heap.lt_size hL
  refine wpAny_mono (h R' _ s.heap.objs.size (withCells V h₁ (cellsFrom (s.heap.objs.size + 1) scope.names [])) _ G' hA rfl rfl (fun V' m' s' τ => ?_) (fun a o e => ?_) (fun n c hc => ?_) hap ⟨hns, fun a o e => ?_, ?_, fun a o e => hk₁ a o (hfl a o e), fun a o e => ?_, ?_, σ.gens, σ.os⟩) (fun fl s' q => ?_) (fun _ _ x => x.elim)
  · refine ⟨⟨oL, es, ep, τ.keep L oL upd_same, hLd, hLk, hLf⟩, τ.has, ?_, fun a o e => τ.keep a o (upd_keep ⟨σ.offF⟩ e), fun a o e => ?_, σ.offF, τ.gens, τ.os⟩
    · cases q : V' L with
      | none => rfl
      | some o => have h1 : upd R.F L oL L = none := τ.disj L o q
                  rw [upd_same] at h1; cases h1
    · have h1 : upd R.F L oL a = none := τ.disj a o e
      by_cases q : a = L
      · subst q; rw [upd_same] at h1; cases h1
      · simpa only [upd_at, if_neg q] using h1
  · show withCells _ _ _ a = some o
    unfold withCells
    rw [if_neg]
    · exact e
    · intro hc
      have h1 := hmem a hc
      have h2 : @LT.lt Nat _ a s.heap.objs.size := Heap.lt_size (σ.has a o e)
      exact absurd h2 (Nat.not_lt.mpr (Nat.le_of_lt h1))
  · have hm : c ∈ (cellsFrom (s.heap.objs.size + 1) scope.names []).map (·.2) := by
      have : (n, c) ∈ cellsFrom (s.heap.objs.size + 1) scope.names [] := mem_of_lookup hc
      exact List.mem_map.mpr ⟨_, this, rfl⟩
    obtain ⟨o, ho', hd'⟩ := hcell n c hc
    refine ⟨hgV c (Nat.le_of_lt (hmem c hm)), o, ?_, hd'⟩
    unfold withCells
    rw [if_pos hm]; exact ho'
  · have e' : withCells V h₁ (cellsFrom (s.heap.objs.size + 1) scope.names []) a = some o := e
    unfold withCells at e'
    split at e'
    · exact e'
    · exact hk₁ a o (σ.has a o e')
  · show withCells _ _ _ _ = none
    unfold withCells
    rw [if_neg fun hc => Nat.lt_irrefl _ (hmem _ hc)]
    exact σ.fresh.eq
  · show upd R.F L oL a = none
    have e' : withCells V h₁ (cellsFrom (s.heap.objs.size + 1) scope.names []) a = some o := e
    unfold withCells at e'
    split at e'
    · rename_i hc
      have q : a ≠ L := fun q => by subst q; exact absurd hLlt (Nat.not_lt.mpr (Nat.le_of_lt (hmem _ hc)))
      simp only [upd_at, if_neg q]; exact hgF a (Nat.le_of_lt (hmem _ hc))
    · have q : a ≠ L := σ.neL e'
      simp only [upd_at, if_neg q]; exact σ.disj a o e'
  · show upd R.F L oL s.heap.objs.size = none
    simp only [upd_at, if_neg (Nat.ne_of_gt hLlt)]; exact σ.freshF
  · cases fl <;> exact q

theorem callDefC (G : Gd w R) (σ : St R V L m s) {name qual : Str} {params : Arguments} {body : List Stmt} {scope : Scope} {dV kV doc pm cdv ct oc : Value} {an od : Option Addr} {osl : Array (Option Value)} {f : Addr} {args : List Value} {binds : List (Str × Value)}
    (ho : (Kx w).lookup f = some ⟨oc, od, .func (fnOf name qual params body scope dV kV doc pm an cdv ct), osl⟩) (hcd : codeIn (Kx w) cdv qual = true) (hroom : A.depth < 900) (hA : A.handled = none)
    (hbind : bindArgs (fnOf name qual params body scope dV kV doc pm an cdv ct) ⟨args, []⟩ = pure binds)
    (hkind : ∀ L', ∀ x ∈ binds, scope.names.lookup x.1 = some .local ∨ (scope.names.lookup x.1 = some .cell ∧ ((cellsFrom (L' + 1) scope.names []).lookup x.1).isSome = true))
    (hco : scope.isCoroutine = false) (hgen : scope.isGenerator = false) (hk : scope.kind = .function)
    (h : ∀ (R' : Rest) (A' : Around) (L' : Addr) (V₁ : View) (s₁ : Shared), Gd w R' → A'.handled = none → A'.depth = A.depth + 1 → A'.units = A.units + 3 → (∀ V' m' s', St R' V' L' m' s' → St R V' L m s') → Le V V₁ →
      (∀ n c, (cellsFrom (L' + 1) scope.names []).lookup n = some c → Gone V c ∧ ∃ o, V₁ c = some o ∧ o.data = .cell (bindC (envOfC qual scope L' f cdv).kindOf binds (fun _ => none) n)) →
      (cellsFrom (L' + 1) scope.names []).Pairwise (fun x y => x.2 ≠ y.2) →
      St R' V₁ L' (bindL (envOfC qual scope L' f cdv).kindOf binds fun _ => none) s₁ →
      wpAny (model prog w) A' (execs body (envOfC qual scope L' f cdv)) (fun fl s' => Q (retOf fl) s') NoE s₁) :
    wpAny (model prog w) A (call (.ref f) args) Q NoE s :=
  wpAny_call (codeDefC G σ ho hcd hroom hA hbind hkind hco hgen hk h)
end

/-! ## part Glob -/

variable {w : World}
theorem gl_Node : nsIn (Kx w) mainGlobals (Str.ofString "Node") = some (some (.ref 76)) := by kernel_rfl
theorem gl_all_nodes : nsIn (Kx w) mainGlobals (Str.ofString "all_nodes") = some (some (.ref 87)) := by kernel_rfl
theorem gl_numbers_told : nsIn (Kx w) mainGlobals (Str.ofString "numbers_told") = some (some (.ref 92)) := by kernel_rfl
theorem gl_parent_numbers : nsIn (Kx w) mainGlobals (Str.ofString "parent_numbers") = some (some (.ref 97)) := by kernel_rfl
theorem gl_thread_with : nsIn (Kx w) mainGlobals (Str.ofString "thread_with") = some (some (.ref 104)) := by kernel_rfl
theorem gl_Frame : nsIn (Kx w) mainGlobals (Str.ofString "Frame") = some (some (.ref 135)) := by kernel_rfl
theorem gl_number_end : nsIn (Kx w) mainGlobals (Str.ofString "number_end") = some (some (.ref 146)) := by kernel_rfl
theorem gl_read_threads : nsIn (Kx w) mainGlobals (Str.ofString "read_threads") = some (some (.ref 153)) := by kernel_rfl
theorem gl_read_member : nsIn (Kx w) mainGlobals (Str.ofString "read_member") = some (some (.ref 160)) := by kernel_rfl
theorem gl__law_text : nsIn (Kx w) mainGlobals (Str.ofString "_law_text") = some (some (.ref 165)) := by kernel_rfl
theorem gl__law_tree : nsIn (Kx w) mainGlobals (Str.ofString "_law_tree") = some (some (.ref 170)) := by kernel_rfl
theorem gl__law_below : nsIn (Kx w) mainGlobals (Str.ofString "_law_below") = some (some (.ref 175)) := by kernel_rfl
theorem gl__law_top : nsIn (Kx w) mainGlobals (Str.ofString "_law_top") = some (some (.ref 182)) := by kernel_rfl
theorem ng_list : nsIn (Kx w) mainGlobals (Str.ofString "list") = some none := by kernel_rfl
theorem ng_len : nsIn (Kx w) mainGlobals (Str.ofString "len") = some none := by kernel_rfl
theorem ng_range : nsIn (Kx w) mainGlobals (Str.ofString "range") = some none := by kernel_rfl
theorem ng_tuple : nsIn (Kx w) mainGlobals (Str.ofString "tuple") = some none := by kernel_rfl
theorem ng_dict : nsIn (Kx w) mainGlobals (Str.ofString "dict") = some none := by kernel_rfl
theorem ng_enumerate : nsIn (Kx w) mainGlobals (Str.ofString "enumerate") = some none := by kernel_rfl
theorem ng_abs : nsIn (Kx w) mainGlobals (Str.ofString "abs") = some none := by kernel_rfl
theorem ng_int : nsIn (Kx w) mainGlobals (Str.ofString "int") = some none := by kernel_rfl
theorem ng_str : nsIn (Kx w) mainGlobals (Str.ofString "str") = some none := by kernel_rfl
theorem ng_bytes : nsIn (Kx w) mainGlobals (Str.ofString "bytes") = some none := by kernel_rfl
theorem ng_ord : nsIn (Kx w) mainGlobals (Str.ofString "ord") = some none := by kernel_rfl
theorem gl_OPENING : ∃ t, nsIn (Kx w) mainGlobals (Str.ofString "OPENING") = some (some (.int 40 t)) := ⟨_, by exact rfl⟩
theorem gl_CLOSING : ∃ t, nsIn (Kx w) mainGlobals (Str.ofString "CLOSING") = some (some (.int 41 t)) := ⟨_, by exact rfl⟩
theorem gl_BLANK : ∃ t, nsIn (Kx w) mainGlobals (Str.ofString "BLANK") = some (some (.int 32 t)) := ⟨_, by exact rfl⟩
theorem gl_MOST_NUMBER : ∃ t, nsIn (Kx w) mainGlobals (Str.ofString "MOST_NUMBER") = some (some (.int 20 t)) := ⟨_, by exact rfl⟩
theorem nmGI {M : Model} {A : Around} {E : Value → Shared → Prop} {R : Rest} {V : View} {L : Addr} {m : Str → Option Value} {s : Shared} {env : Env} {x : Str} {pos : Pos} {i : Int} {Q : Value → Shared → Prop} (G : Gd w R) (σ : St R V L m s) (e : ∃ t, nsIn (Kx w) mainGlobals x = some (some (.int i t))) (h : ∀ t, Q (.int i t) s) (hg : env.globals = mainGlobals := by rfl) (hk : env.scope.kind = .function := by rfl)
    (hx : env.kindOf x = some .globalImplicit := by kernel_rfl) (hd : (x == ("__debug__" : Str)) = false := by decide +kernel) : wpAny M A (eval (.Name x pos) env) Q E s := by
  obtain ⟨t, e⟩ := e
  exact nmG G σ e (h t) hg hk hx hd

/-! ## part DictNew -/

theorem entry_dict_loop : entryFor table "dict.update.loop" = some Builtin.«dict.update.loop» := entryFor_of_tree (by kernel_rfl)
theorem list_keys_none : typeLookup (.type "list") "keys" = pure none := am_miss_of_fast (by decide +kernel)

section
variable {prog : Program} {w : World} {A : Around} {E : Value → Shared → Prop} {s : Shared}
theorem keys_miss {a : Addr} {xs : Array Value} {k : Nat} {Q : Option Value → Shared → Prop} (hx : s.heap.get? a = some (listOf xs k)) (hA : A.handled = none)
    (h : ∀ h' tk, (∀ b o, s.heap.get? b = some o → h'.get? b = some o) → Q none { s with heap := h', toks := tk }) : wpAny (model prog w) A (getAttr? (.ref a) "keys") Q E s := by
  obtain ⟨hp, g, d, tk, os⟩ := s
  have hT : ∀ tk', (⟨hp, g, d, tk', os⟩ : Shared).TypeIs (.ref a) "list" := fun _ => ⟨_, hx, rfl⟩
  have f1 := sub_AttributeError
  have f3 := F.slot_list_getattribute.lookup
  have f4 := F.slot_list_getattribute.bind (.ref a)
  have f5 := am_list_getattr_none
  unfold getAttr? getAttrBy? getAttrBy
  repeat (any_goals (first | assumption | exact hT _ | ((with_reducible show wpAny _ _ (call (Value.builtin "list.__getattribute__") _ _) _ _ _); refine call_meets F.slot_list_getattribute (hT _) am_entry_list_getattribute (F.args_list_getattribute_2 _ _) (meets_getattribute_miss_list a xs k #[] _ _ list_keys_none (by decide +kernel)) ⟨hx, hA, fun h' tk' e hx' => ?_⟩) | wp_step))
  obtain ⟨t', u', he⟩ := hx'.there
  show wpAny _ _ (getattributeRaised _ _ _ _ _ _ _) _ _ _
  unfold getattributeRaised
  repeat (any_goals (first | assumption | wp_step))
  exact h _ _ hx'.keeps

/-- what the walk of pairs has stored -/
def storedAll (kvs : List (Int × Value)) (ps : List (Int × Value)) : List (Int × Value) := ps.foldl (fun k p => stored k p.1 p.2) kvs

theorem stored_len (kvs : List (Int × Value)) (k : Int) (v : Value) : (stored kvs k v).length ≤ kvs.length + 1 := by
  unfold stored; split <;> simp

theorem dcLoop {d I l : Addr} {vs : List Value} {h₀ : Heap} {RR : Result → Shared → Prop} (hA : A.handled = none) (hz : vs.length ≤ 1000) (hdI : d ≠ I) (hlI : l ≠ I) (hd₀ : h₀.get? d = none) (hI₀ : h₀.get? I = none)
    {n : Nat} (hl : h₀.get? l = some (listOf vs.toArray n)) :
    ∀ (k i : Nat) (ps kvs : List (Int × Value)) (s : Shared), i + k = vs.length → kvs.length ≤ i → Paired (fun v (p : Int × Value) => ∃ x t n, v = Value.ref x ∧ h₀.get? x = some (tupOf #[.int p.1 t, p.2] n)) (vs.drop i) ps →
      (∀ b o, h₀.get? b = some o → s.heap.get? b = some o) → s.heap.IsListIter I l i → s.heap.DictOf (intKind prog w) d kvs →
      (∀ h' tk, (∀ b o, h₀.get? b = some o → h'.get? b = some o) → h'.DictOf (intKind prog w) d (storedAll kvs ps) → RR (.ok (.ret .none)) { s with heap := h', toks := tk }) →
      codeAny (model prog w) A (.builtin "dict.update.loop" ⟨[.ref d, .ref I, rawInt (i : Nat), .none], []⟩) RR s := by
  intro k
  induction k with
  | zero =>
    intro i ps kvs s hik hkl hp hk hit hd hR
    have hs : s.heap.IsList l vs.toArray := ⟨_, hk _ _ hl, rfl, n, rfl⟩
    have hnil : vs.drop i = [] := List.drop_eq_nil_of_le (by omega)
    rw [hnil] at hp; cases hp
    refine codeAny_builtin entry_dict_loop ?_
    have hA' : (A.under (.builtin "dict.update.loop" ⟨[.ref d, .ref I, rawInt (i : Nat), .none], []⟩)).handled = none := hA
    show wpAny _ _ (pyNext (.ref I) >>= _) _ _ _
    refine wpAny_bind (wpAny_pyNext_list_end hA' hit hs (by simp; omega) fun h' he => ?_)
    show wpAny _ _ (Builtin.Dict.addKeywords d [] >>= _) _ _ _
    refine wpAny_bind (wpAny_pure (wpAny_pure ?_))
    refine hR h' s.toks (fun b o e => he b o (by rintro rfl; rw [hI₀] at e; cases e) (hk b o e)) (hd.extBut he hdI)
  | succ k ih =>
    intro i ps kvs s hik hkl hp hk hit hd hR
    have hs : s.heap.IsList l vs.toArray := ⟨_, hk _ _ hl, rfl, n, rfl⟩
    have hlt : i < vs.length := by omega
    rw [List.drop_eq_getElem_cons hlt] at hp
    cases hp with
    | cons hh hp =>
    rename_i p ps
    obtain ⟨x, t, nx, hv, hx⟩ := hh
    refine codeAny_builtin entry_dict_loop ?_
    have hA' : (A.under (.builtin "dict.update.loop" ⟨[.ref d, .ref I, rawInt (i : Nat), .none], []⟩)).handled = none := hA
    show wpAny _ _ (pyNext (.ref I) >>= _) _ _ _
    refine wpAny_bind (wpAny_pyNext_list_item hit hs (x := .ref x) (by rw [← hv]; simp [hlt]) fun h₁ hit₁ hs₁ => ?_)
    have k₁ : ∀ b o, h₀.get? b = some o → h₁.get? b = some o := fun b o e => hs₁.extBut b o (by rintro rfl; rw [hI₀] at e; cases e) (hk b o e)
    have hx₁ := k₁ _ _ hx
    have hd₁ := hd.extBut hs₁.extBut hdI
    refine wpAny_bind (wpAny_holding (wpAny_bind (wpAny_tryCatch ?_)))
    show wpAny _ _ (Builtin.Dict.pairItems (.ref x)) _ _ _
    unfold Builtin.Dict.pairItems
    refine wpAny_bind (wpAny_typeOf (T := "tuple") ⟨_, hx₁, rfl⟩ ?_)
    rw [if_pos (by decide)]
    refine wpAny_bind (wpAny_seqItems hx₁ rfl (wpAny_pure ?_))
    show wpAny _ _ (holding [Value.int p.1 t, p.2] (dictSet d (.int p.1 t) p.2)) _ _ _
    refine wpAny_holding (wpAny_dictSet_pairs (knd := intKind prog w) (intKind_is prog w p.1 t) hd₁ (fun h₂ hd₂ hs₂ => wpAny_pure ⟨Code.quiet_builtin _ (by decide +kernel), ?_⟩) (by rw [sizeLine_eq]; omega))
    have e : ((i : Nat) : Int) + 1 = ((i + 1 : Nat) : Int) := by push_cast; rfl
    show codeAny _ _ (.builtin "dict.update.loop" ⟨[.ref d, .ref I, rawInt (((i : Nat) : Int) + 1), .none], []⟩) _ _
    rw [e]
    have hsl := stored_len kvs p.1 p.2
    refine ih (i + 1) ps (stored kvs p.1 p.2) _ (by omega) (by omega) hp (fun b o e => hs₂.extBut b o (by rintro rfl; rw [hd₀] at e; cases e) (k₁ b o e)) ?_ hd₂ hR
    obtain ⟨oi, ho, hoc, hod⟩ := hit₁
    exact ⟨oi, hs₂.extBut _ _ hdI.symm ho, hoc, hod⟩

theorem call_dict_pairs {l : Addr} {vs : List Value} {n : Nat} {ps : List (Int × Value)} {Q : Value → Shared → Prop} (hA : A.handled = none) (hl : s.heap.get? l = some (listOf vs.toArray n)) (hz : vs.length ≤ 1000)
    (hp : Paired (fun v (p : Int × Value) => ∃ x t n, v = Value.ref x ∧ s.heap.get? x = some (tupOf #[.int p.1 t, p.2] n)) vs ps)
    (h : ∀ h' tk, (∀ b o, s.heap.get? b = some o → h'.get? b = some o) → h'.DictOf (intKind prog w) s.heap.objs.size (storedAll [] ps) → Q (.ref s.heap.objs.size) { s with heap := h', toks := tk }) :
    wpAny (model prog w) A (call (.type "dict") [.ref l]) Q E s := by
  refine callType_codes (Q₁ := fun obj s₁ => obj = .ref s.heap.objs.size ∧ s₁ = { s with heap := s.heap.push { cls := .type "dict", data := .dict #[] } }) F.kt_called_dict (F.kt_typeCall_dict_1 _) F.entry_dict_init (kt_code_dict_new _ ⟨rfl, rfl⟩) ?_
  rintro obj s₁ ⟨rfl, rfl⟩
  have hnew : (s.heap.push { cls := .type "dict", data := .dict #[] }).DictOf (intKind prog w) s.heap.objs.size [] := Heap.DictOf.new s.heap
  have k0 : ∀ b o, s.heap.get? b = some o → (s.heap.push { cls := .type "dict", data := .dict #[] }).get? b = some o := fun b o e => Heap.get?_push_of_some _ e
  have hl' := k0 _ _ hl
  have hlT : ({ s with heap := s.heap.push { cls := .type "dict", data := .dict #[] } } : Shared).TypeIs (.ref l) "list" := ⟨_, hl', rfl⟩
  have hdn : s.heap.get? s.heap.objs.size = none := by
    cases q : s.heap.get? s.heap.objs.size with
    | none => rfl
    | some o => exact absurd (Heap.lt_size q) (Nat.lt_irrefl _)
  refine ⟨hnew.typeIs, F.args_dict_init_2 _ _, ?_⟩
  unfold Builtin.«dict.__init__»
  refine wpAny_bind ?_
  unfold Builtin.Dict.selfAndRest
  refine wpAny_bind (wpAny_notOrdered_dict hnew.typeIs ?_)
  show wpAny _ _ (pure (s.heap.objs.size, [Value.ref l])) _ _ _
  refine wpAny_pure ?_
  show wpAny _ _ (Builtin.Dict.updateFrom "dict.__init__" s.heap.objs.size (.ref l) [] .none) _ _ _
  unfold Builtin.Dict.updateFrom
  refine wpAny_bind (wpAny_typeOf hlT ?_)
  rw [if_pos (by decide)]
  refine wpAny_bind (keys_miss (s := { s with heap := s.heap.push { cls := .type "dict", data := .dict #[] } }) hl' hA fun h₁ tk₁ k₁ => ?_)
  simp only [Option.isNone_none, if_true]
  refine wpAny_bind (wpAny_rule (wpAny_bind ?_))
  have hl₁ : h₁.get? l = some (listOf vs.toArray n) := k₁ _ _ hl'
  refine wpAny_pyIter_list (s := { s with heap := h₁, toks := tk₁ }) ⟨_, hl₁, rfl, n, rfl⟩ ?_
  have hdl : s.heap.objs.size < h₁.objs.size := by
    obtain ⟨o, _, _, ho, _⟩ := hnew
    exact Heap.lt_size (k₁ _ _ ho)
  have hIn : h₁.get? h₁.objs.size = none := by
    cases q : h₁.get? h₁.objs.size with
    | none => rfl
    | some o => exact absurd (Heap.lt_size q) (Nat.lt_irrefl _)
  have k01 : ∀ b o, s.heap.get? b = some o → h₁.get? b = some o := fun b o e => k₁ b o (k0 b o e)
  have hI₀ : s.heap.get? h₁.objs.size = none := by
    cases q : s.heap.get? h₁.objs.size with
    | none => rfl
    | some o => rw [k01 _ _ q] at hIn; cases hIn
  refine wpAny_pure ⟨Code.quiet_builtin _ (by decide +kernel), ?_⟩
  refine dcLoop (h₀ := s.heap) (I := h₁.objs.size) (l := l) (vs := vs) (by exact hA) hz (Nat.ne_of_lt hdl) (Nat.ne_of_lt (Heap.lt_size hl₁)) hdn hI₀ hl vs.length 0 ps [] _ (by omega) (by simp) hp (fun b o e => Heap.get?_push_of_some _ (k01 b o e)) ⟨_, Heap.get?_push_size _ rfl, rfl, rfl⟩ ?_ fun h' tk k' hd' => ?_
  · obtain ⟨o, es, ep, ho, r⟩ := hnew
    exact ⟨o, es, ep, Heap.get?_push_of_some _ (k₁ _ _ ho), r⟩
  · exact ⟨rfl, h h' tk k' hd'⟩
end

/-! ## part BytesInt -/
section
open PySem.NumText

theorem bytes_int : typeLookup (.type "bytes") "__int__" = pure none := by rw [typeLookup_type, builtinLookup_eq_fast]; kernel_rfl
theorem bytes_idx : typeLookup (.type "bytes") "__index__" = pure none := by rw [typeLookup_type, builtinLookup_eq_fast]; kernel_rfl
theorem bytes_trunc : typeLookup (.type "bytes") "__trunc__" = pure none := by rw [typeLookup_type, builtinLookup_eq_fast]; kernel_rfl

/-- the numbers of a row of bytes -/
def natsOf (b : Array UInt8) : List Nat := b.toList.map (·.toNat)

set_option maxHeartbeats 4000000 in
theorem gives_bytes {b : Array UInt8} {u : Tok} {n : Int} (hs : ((natsOf b).takeWhile (· != 0)).length ≤ 640) (hr : (int_private% "readNumeral") 0 10 ((natsOf b).takeWhile (· != 0)) = (int_private% "Numeral.value") n)
    (ha : (((natsOf b).takeWhile (· != 0)).length == (natsOf b).length) = true) : Gives (Builtin.«int.__new__» ⟨[.type "int", .bytes b u], []⟩) (.int n) :=
  .of_wp fun M A E s Q h => by
    obtain ⟨hp, g, d, tk, os⟩ := s
    have f1 := F.conv_sub_int
    have f2 := F.madeHere_int
    have f3 := bytes_int
    have f4 := bytes_idx
    have f5 := bytes_trunc
    have f6 : typeOf (.bytes b u) = pure (.type "bytes") := rfl
    have hk := PySem.W.KIN.Hid.mk (And.intro hs (And.intro hr ha))
    clear hs hr ha
    repeat (any_goals (first
      | assumption
      | ((with_reducible show wpAny _ _ ((int_private% "intFromText") _ _ _) _ _ _); refine PySem.W.KIN.wp_text hk.out.1 hk.out.2.1 hk.out.2.2 ?_)
      | wp_step))
    all_goals first | exact ⟨_, rfl, h⟩ | skip

section
variable {prog : Program} {w : World} {A : Around} {E : Value → Shared → Prop} {s : Shared} {Q : Value → Shared → Prop} {t : Tok}
theorem call_int_bytes {b : Array UInt8} (hd : AllDigits (natsOf b)) (hne : natsOf b ≠ []) (hl : (natsOf b).length ≤ 640) (h : Q (.int ((digitsVal (natsOf b) : Nat) : Int) s.toks) { s with toks := s.toks + 1 }) :
    wpAny (model prog w) A (call (.type "int") [.bytes b t]) Q E s := by
  have hx : (⟨(natsOf b).toArray⟩ : Str).cps.toList = natsOf b := rfl
  have hsg : ∀ c ∈ (⟨(natsOf b).toArray⟩ : Str).cps.toList, c = 45 ∨ (48 ≤ c ∧ c ≤ 57) := fun c hc => .inr (hd c (by rwa [hx] at hc))
  obtain ⟨e1, e2⟩ := numText_signs hsg
  have hlen : (⟨(natsOf b).toArray⟩ : Str).length ≤ 640 := by show (natsOf b).toArray.size ≤ 640; rw [List.size_toArray]; exact hl
  have hi := intText_digits (x := ⟨(natsOf b).toArray⟩) (by rw [hx]; exact hd) (by rw [hx]; exact hne) (by omega)
  rw [hx] at e1 e2 hi
  have htw : (natsOf b).takeWhile (· != 0) = natsOf b := by
    have : numSeenOf ⟨(natsOf b).toArray⟩ = (natsOf b).takeWhile (· != 0) := by show (numTextOf _).takeWhile _ = _; rw [e1]
    rw [← this, e2]
  rcases read0 ⟨(natsOf b).toArray⟩ (by rw [e2]; exact hl) with ⟨m, h1, h2, h3⟩ | ⟨h1, _⟩
  · rw [hi] at h1
    injection h1 with h1
    subst h1
    rw [e2] at h3
    exact call_int_1 (gives_bytes (by rw [htw]; exact hl) (by rw [htw]; exact h3) (by rw [htw]; simp)).meets (show (Made.int _).post _ s from ⟨rfl, h⟩)
  · rw [hi] at h1; cases h1
end
end

/-! ## part Rul4 -/

section
variable {prog : Program} {w : World} {A : Around} {E : Value → Shared → Prop} {R : Rest} {V : View} {L d l : Addr} {m : Str → Option Value} {s : Shared} {o : Obj} {kvs kvs' : List (Int × Value)} {k : Int} {t u : Tok} {v : Value} {Q : Value → Shared → Prop}

theorem k182 {w : World} : ∃ o, (Kx w).lookup 182 = some o := ⟨_, by exact rfl⟩
theorem Gd.size (G : Gd w R) (σ : St R V L m s) : (s.heap.objs.size == sysModules) = false := by
  obtain ⟨o, ho⟩ := k182 (w := w)
  have h1 : @LT.lt Nat _ 182 s.heap.objs.size := Heap.lt_size ((G.K σ) _ _ ho)
  have h2 : @Eq Nat sysModules 1 := rfl
  refine beq_eq_false_iff_ne.mpr fun e => ?_
  have e' : @Eq Nat s.heap.objs.size sysModules := e
  omega

/-! ## dicts of ints -/
theorem dcSet {Q : Unit → Shared → Prop} (σ : St R V L m s) (hV : V d = some o) (D : IntDict prog w o kvs) (hz : kvs.length ≤ 1000)
    (h : ∀ s' o', IntDict prog w o' (stored kvs k v) → St R (upd V d o') L m s' → Q () s') : wpAny (model prog w) A (setItem (.ref d) (.int k t) v) Q E s := by
  refine wpAny_setItem_pairs (knd := intKind prog w) (intKind_is prog w k t) (D.at σ hV) (fun h' hd hs => ?_) (by rw [sizeLine_eq]; omega)
  obtain ⟨o', ho', hi⟩ := Heap.dictOf_iff.mp hd
  exact h _ o' hi (σ.sameBut hs hV ho')
theorem dcNil {env : Env} {pos : Pos} (G : Gd w R) (σ : St R V L m s) (h : ∀ s' a o', (a == sysModules) = false → Gone V a → IntDict prog w o' [] → St R (upd V a o') L m s' → Q (.ref a) s') :
    wpAny (model prog w) A (eval (.Dict [] [] pos) env) Q E s := by
  rw [eval_Dict_empty]
  refine wpAny_bind (wpAny_standAt (wpAny_newObj_type ?_))
  have hnew : (s.heap.push { cls := .type "dict", data := .dict #[] }).DictOf (intKind prog w) s.heap.objs.size [] := Heap.DictOf.new s.heap
  obtain ⟨o', ho', hi⟩ := Heap.dictOf_iff.mp hnew
  have e : o' = { cls := .type "dict", data := .dict #[] } := by rw [Heap.get?_push_size _ rfl] at ho'; exact (Option.some.inj ho').symm
  subst e
  exact h _ _ _ (G.size σ) σ.fresh hi σ.push
theorem dcOf {vs : List Value} {n : Nat} {ps : List (Int × Value)} (G : Gd w R) (hA : A.handled = none) (σ : St R V L m s) (hl : V l = some (listOf vs.toArray n)) (hz : vs.length ≤ 1000)
    (hp : Paired (fun v (p : Int × Value) => ∃ x t n, v = Value.ref x ∧ V x = some (tupOf #[.int p.1 t, p.2] n)) vs ps)
    (h : ∀ s' a o', (a == sysModules) = false → Gone V a → IntDict prog w o' (storedAll [] ps) → St R (upd V a o') L m s' → Q (.ref a) s') : wpAny (model prog w) A (call (.type "dict") [.ref l]) Q E s := by
  refine call_dict_pairs hA (σ.has _ _ hl) hz (hp.mono fun v p ⟨x, t, n, e, hx⟩ => ⟨x, t, n, e, σ.has _ _ hx⟩) fun h' tk k hd => ?_
  obtain ⟨o', ho', hi⟩ := Heap.dictOf_iff.mp hd
  exact h _ _ o' (G.size σ) σ.fresh hi ((σ.keeps k).addNew σ.fresh σ.freshF (Nat.ne_of_gt σ.ns.lt) ho')
theorem dcNe {d' : Addr} {o' : Obj} (σ : St R V L m s) (hV : V d = some o) (D : IntDict prog w o kvs) (hV' : V d' = some o') (D' : IntDict prog w o' kvs') (hm : (d == sysModules) = false) (hm' : (d' == sysModules) = false) (hu : A.units < 9000)
    (hlen : kvs.length = kvs'.length) (hhit : ∀ p ∈ kvs, ∃ i t u, p.2 = .int i t ∧ valueAt kvs' p.1 = some (.int i u)) (h : Q (.bool false) s) :
    wpAny (model prog w) A (compareOp .NotEq (.ref d) (.ref d')) Q E s := by
  have hc : A.units < cLine := Nat.lt_trans hu (by decide)
  refine keq_ne (r := true) hm hm' (D.at σ hV) (D'.at σ hV') hc (fun hx => ?_) (by rw [hlen]; simpa using h)
  clear D hlen hx
  induction kvs with
  | nil => exact .nil
  | cons p r ih =>
    obtain ⟨k, v⟩ := p
    obtain ⟨i, t, u, e, hv⟩ := hhit (k, v) List.mem_cons_self
    have e' : v = .int i t := e
    subst e'
    have hh := KeqHits.hit (A := A.in1) (s := s) (k := k) (v := .int i t) (y := .int i u) (r := r) (e := (i == i)) (b := true) hv (SeqAt.EqAt.int_int i t i u) (ih fun p hp => hhit p (List.mem_cons_of_mem _ hp))
    simpa using hh

/-! ## bytes -/
theorem byLen {xs : List UInt8} (σ : St R V L m s) (hz : xs.length ≤ 100000) (h : ∀ s' t', St R V L m s' → Q (.int (xs.length : Nat) t') s') : wpAny (model prog w) A (call (.builtin "len") [.bytes xs.toArray t]) Q E s := by
  refine len_bytes (by rw [List.size_toArray]; omega) ?_
  rw [List.size_toArray]
  exact h _ _ σ.tok
theorem byItem {xs : List UInt8} {value slice : PySem.Expr} {i : Nat} (σ : St R V L m s) (hz : xs.length ≤ 100000) (hi : i < xs.length) (h : ∀ s' t', St R V L m s' → Q (.int ((xs.getD i 0).toNat : Nat) t') s')
    (hs : subscripted slice false (.bytes xs.toArray t) (.int (i : Nat) u) = operate [.bytes xs.toArray t, .int (i : Nat) u] (getItem (.bytes xs.toArray t) (.int (i : Nat) u)) := by with_unfolding_all rfl) :
    wpAny (model prog w) A (subscriptTail value slice (.bytes xs.toArray t) (.int (i : Nat) u)) Q E s :=
  tail_any (typeIs_bytes _ _ _) FB.slot_bytes_getitem.lookup (getItem_bytes (by omega) (by omega) (by omega) (by
    have e : ((i : Nat) : Int).toNat = i := by omega
    rw [e]; exact h _ _ σ.tok)) hs
theorem bySlice {xs : List UInt8} {value slice : PySem.Expr} {a : Addr} {i j : Nat} {ti tj : Tok} (σ : St R V L m s) (ha : V a = some (slOf (.int (i : Nat) ti) (.int (j : Nat) tj) .none)) (hz : xs.length ≤ 100000) (hij : i ≤ j)
    (h : ∀ s' t', St R V L m s' → Q (.bytes ((xs.drop i).take (j - i)).toArray t') s') {ops : List Value}
    (hs : subscripted slice false (.bytes xs.toArray t) (.ref a) = operate ops (getItem (.bytes xs.toArray t) (.ref a)) := by with_unfolding_all rfl) :
    wpAny (model prog w) A (subscriptTail value slice (.bytes xs.toArray t) (.ref a)) Q E s := by
  have hp : KBy.picked xs.toArray (some ((i : Nat) : Int)) (some ((j : Nat) : Int)) = ((xs.drop i).take (j - i)).toArray := by
    rw [KBc.picked_eq]
    simp only [Option.elim_some, clipAt_nat, List.size_toArray]
    congr 1
    apply List.ext_getElem?
    intro k
    simp only [List.getElem?_take, List.getElem?_drop]
    by_cases h1 : i ≤ xs.length
    · rw [Nat.min_eq_left h1]
      by_cases h2 : j ≤ xs.length
      · rw [Nat.min_eq_left h2]
      · by_cases h3 : k < xs.length - i
        · rw [if_pos (by omega), if_pos (by omega)]
        · by_cases h4 : k < j - i
          · rw [if_neg (by omega), if_pos h4, List.getElem?_eq_none (by omega)]
          · rw [if_neg (by omega), if_neg h4]
    · by_cases h4 : k < j - i
      · rw [if_pos h4, List.getElem?_eq_none (l := xs) (i := i + k) (by omega)]
        split
        · rw [List.getElem?_eq_none (by omega)]
        · rfl
      · rw [if_neg (by omega), if_neg h4]
  have hsz : (KBy.picked xs.toArray (some ((i : Nat) : Int)) (some ((j : Nat) : Int))).size ≤ sizeLine := Nat.le_trans (KBc.size_picked_le _ _ _) (by rw [List.size_toArray, sizeLine_eq]; omega)
  refine tail_any (typeIs_bytes _ _ _) FB.slot_bytes_getitem.lookup (getItem_meets (typeIs_bytes _ _ _) (by decide) FB.slot_bytes_getitem FB.entry_bytes_getitem (FB.args_bytes_getitem_2 _ _) (KBc.meets_slice2 _ _ _ (.int _ _) (.int _ _)) ⟨⟨_, σ.has _ _ ha, rfl, rfl⟩, hsz, fun t' k => ?_⟩) hs
  rw [hp]
  exact h _ _ σ.tok
theorem byEq {xs ys : List UInt8} (h : Q (.bool (xs == ys)) s) : wpAny (model prog w) A (compareOp .Eq (.bytes xs.toArray t) (.bytes ys.toArray u)) Q E s := PySem.W.eq_bytes h
theorem byConst {M : Model} {env : Env} {pos : Pos} {xs : List UInt8} {kd : Nat} (σ : St R V L m s) (h : ∀ s' t', St R V L m s' → Q (.bytes xs.toArray t') s') : wpAny M A (eval (.Constant (.bytes xs) kd pos) env) Q E s := PySem.W.Constant_bytes (h _ _ σ.tok)
theorem byInt {xs : List UInt8} (σ : St R V L m s) (hd : NumText.AllDigits (xs.map (·.toNat))) (hne : xs ≠ []) (hz : xs.length ≤ 100) (h : ∀ s' t', St R V L m s' → Q (.int ((NumText.digitsVal (xs.map (·.toNat)) : Nat) : Int) t') s') :
    wpAny (model prog w) A (call (.type "int") [.bytes xs.toArray t]) Q E s :=
  call_int_bytes (b := xs.toArray) hd (by show xs.map _ ≠ []; simpa using hne) (by show (xs.map _).length ≤ 640; rw [List.length_map]; omega) (h _ _ σ.tok)

/-! ## texts -/
theorem sAdd {x y : Str} (σ : St R V L m s) (hz : x.length + y.length ≤ 100000) (h : ∀ s' t', St R V L m s' → Q (.str (x ++ y) t') s') : wpAny (model prog w) A (binaryOp .Add (.str x t) (.str y u)) Q E s :=
  KLn.add_n (Nat.le_refl _) (Nat.le_refl _) (by omega) fun _ _ _ _ _ _ => h _ _ σ.tok
theorem sOfInt {i : Int} (σ : St R V L m s) (hi : i.natAbs.log2 < 1920) (h : ∀ s' t', St R V L m s' → Q (.str (Str.ofString (toString i)) t') s') : wpAny (model prog w) A (call (.type "str") [.int i t]) Q E s :=
  PySem.P.str_of_int hi (h _ _ σ.tok)
end

/-! ## part Rul5 -/

section
variable {prog : Program} {w : World} {A : Around} {E : Value → Shared → Prop} {R : Rest} {V : View} {L d l : Addr} {m : Str → Option Value} {s : Shared} {o : Obj} {t u v : Tok} {Q : Value → Shared → Prop}
theorem rgOne {i : Int} (σ : St R V L m s) (h : ∀ s' a t u v, Gone V a → St R (upd V a (rngOf 0 i 1 t u v)) L m s' → Q (.ref a) s') : wpAny (model prog w) A (call (.type "range") [.int i t]) Q E s :=
  call_range_1 (h _ _ _ _ _ σ.fresh σ.push)
theorem rgThree {a b c : Int} (σ : St R V L m s) (hc : c ≠ 0) (hp : (b - a).natAbs < 1000000 ∧ c.natAbs < 1000000) (h : ∀ s' r t u v, Gone V r → St R (upd V r (rngOf a b c t u v)) L m s' → Q (.ref r) s') : wpAny (model prog w) A (call (.type "range") [.int a t, .int b u, .int c v]) Q E s :=
  PySem.call_range_3 hc (h _ _ _ _ _ σ.fresh σ.push) (Or.inl (PyProof.noPylong_small (by omega)))
theorem rgLen (n : Nat) : Builtin.Range.rangeSize 0 (n : Int) 1 = (n : Int) := by rw [rangeSize_nat]; simp
theorem rgLenDown (n : Nat) : Builtin.Range.rangeSize ((n : Int) - 1) (-1) (-1) = (n : Int) := by rw [rangeSize_downNat]; omega
theorem rgSmall {n : Nat} (h : n ≤ 100000) : Builtin.Range.small 0 (n : Int) 1 = true := small_one (by omega) (by omega) (by omega) (by omega)
theorem rgSmallDown {n : Nat} (h : n ≤ 100000) : Builtin.Range.small ((n : Int) - 1) (-1) (-1) = true := small_down (by omega) (by omega) (by omega) (by omega)
theorem lsMul {vs : List Value} {n k : Nat} (σ : St R V L m s) (hl : V l = some (listOf vs.toArray n)) (hne : vs ≠ []) (hz : vs.length * k ≤ 100000) (hk : k ≤ 100000)
    (h : ∀ s' a n', Gone V a → St R (upd V a (listOf (List.replicate k vs).flatten.toArray n')) L m s' → Q (.ref a) s') : wpAny (model prog w) A (binaryOp .Mult (.ref l) (.int (k : Nat) u)) Q E s := by
  refine mul_list σ.fr σ.news (σ.has _ _ hl) (by omega) (by omega) (by simp only [List.size_toArray, Int.toNat_natCast]; omega) fun h' F' N' => ?_
  have hv : vs.toArray.isEmpty = false := by cases vs <;> simp_all
  rw [hv] at N'
  simp only [Bool.false_eq_true, if_false, Int.toNat_natCast] at N'
  obtain ⟨g, σ'⟩ := σ.new1 (tk := s.toks) F' N' (fun p hp => Heap.lt_size ((mem_allOf (a := p.1) (o := p.2)).mp hp).2) (Nat.ne_of_gt σ.ns.lt)
  rw [listMul_foldl] at σ'
  exact h _ _ 0 g σ'
theorem lsSetAt {vs : List Value} {n i : Nat} {x : Value} {Q : Unit → Shared → Prop} (σ : St R V L m s) (hl : V l = some (listOf vs.toArray n)) (hi : i < vs.length) (hz : vs.length ≤ 100000)
    (h : ∀ s' n', St R (upd V l (listOf (vs.set i x).toArray n')) L m s' → Q () s') : wpAny (model prog w) A (setItem (.ref l) (.int (i : Nat) t) x) Q E s := by
  refine ki_setAt (σ.has _ _ hl) (by omega) (by omega) (by rw [List.size_toArray]; omega) ?_
  have τ := σ.update (tk := s.toks) hl (mapSeq_list (fun a => a.setIfInBounds (((i : Nat) : Int)).toNat x) vs.toArray n) rfl
  simp only [Int.toNat_natCast, List.setIfInBounds_toArray] at τ
  simpa only [Int.toNat_natCast] using h _ _ τ
theorem asTuple {elts : List PySem.Expr} {kk : Nat} {pos : Pos} {env : Env} {vs : List Value} {n : Nat} {Q : Unit → Shared → Prop} (hA : A.handled = none) (σ : St R V L m s) (ht : V l = some (tupOf vs.toArray n)) (hn : (assignEach elts env).length = vs.length) (hstar : (assignEach elts env).findIdx? (·.1) = none)
    (h : ∀ s', St R V L m s' → wpAny (model prog w) A (assignInOrder ((assignEach elts env).map (·.2)) vs) Q E s') : wpAny (model prog w) A (assign (.Tuple elts kk pos) env (.ref l)) Q E s :=
  wpAny_assign_Tuple hA ⟨_, σ.has _ _ ht, rfl, n, rfl⟩ (by rw [hn, List.size_toArray]) hstar fun h' he => h _ (σ.extBut he σ.fresh σ.freshF (Nat.ne_of_gt σ.ns.lt))
end

/-! ## part Txts -/

/-! ## texts as rows of numbers -/
def S (l : List Nat) : Str := ⟨l.toArray⟩
theorem S_append (a b : List Nat) : S a ++ S b = S (a ++ b) := by
  show (⟨a.toArray ++ b.toArray⟩ : Str) = ⟨(a ++ b).toArray⟩
  rw [List.append_toArray]
theorem S_len (a : List Nat) : (S a).length = a.length := List.size_toArray
theorem S_list (a : List Nat) : (S a).cps.toList = a := rfl
theorem S_eta (x : Str) : x = S x.cps.toList := rfl
def decs (n : Int) : List Nat := (Str.ofString (toString n)).cps.toList
theorem decs_S (n : Int) : Str.ofString (toString n) = S (decs n) := rfl
theorem join_S (sep : List Nat) : ∀ ls : List (List Nat), sep = [] → Txt.join (S sep) (ls.map S) = S ls.flatten := by
  intro ls hs
  subst hs
  show Builtin.Str.glued (S []) (ls.map S) = _
  rw [StrLaws.glued_eq_join]
  induction ls with
  | nil => rfl
  | cons x r ih =>
    cases r with
    | nil => show S x = _; simp
    | cons y r =>
      show S x ++ S [] ++ Str.join (S []) (S y :: r.map S) = _
      have ih' : Str.join (S []) (S y :: r.map S) = S (y :: r).flatten := ih
      rw [ih', S_append, S_append]; simp

/-! ## trees -/
inductive PT where
  | nd (n : Int) (ks : List PT)
def PT.num : PT → Int
  | .nd n _ => n
def PT.kids : PT → List PT
  | .nd _ ks => ks
mutual
def PT.pre : PT → List Int
  | .nd n ks => n :: PT.pres ks
def PT.pres : List PT → List Int
  | [] => []
  | t :: ts => PT.pre t ++ PT.pres ts
end
mutual
def txt : PT → List Nat
  | .nd n ks => decs n ++ (if ks.length = 1 then 32 :: chain ks else if ks.length = 0 then [] else 32 :: txts ks)
def chain : List PT → List Nat
  | [] => []
  | k :: _ => txt k
def txts : List PT → List Nat
  | [] => []
  | k :: r => (40 :: (txt k ++ [41])) ++ txts r
end
def rest (ks : List PT) : List Nat := if ks.length = 1 then 32 :: chain ks else if ks.length = 0 then [] else 32 :: txts ks
theorem txt_nd (n : Int) (ks : List PT) : txt (.nd n ks) = decs n ++ rest ks := by rw [txt]; rfl
theorem txts_flat : ∀ ks : List PT, txts ks = (ks.map fun k => 40 :: (txt k ++ [41])).flatten
  | [] => by simp [txts]
  | k :: r => by rw [txts, txts_flat r]; simp

/-- the kids of every node are as the function says -/
inductive OKT (keys : List Int) (kf : Int → List Int) : PT → Prop
  | nd {n : Int} {ks : List PT} : n ∈ keys → ks.map PT.num = kf n → (∀ k ∈ ks, OKT keys kf k) → OKT keys kf (.nd n ks)

/-! the value is the nested tuple that tells the tree -/
mutual
def TupT (V : View) : Value → PT → Prop
  | v, .nd n ks => ∃ x t b n1 n2 vs, v = .ref x ∧ V x = some (tupOf #[.int n t, .ref b] n1) ∧ V b = some (tupOf vs.toArray n2) ∧ TupTs V vs ks
def TupTs (V : View) : List Value → List PT → Prop
  | vs, [] => vs = []
  | vs, t :: ts => ∃ v r, vs = v :: r ∧ TupT V v t ∧ TupTs V r ts
end
mutual
theorem TupT.mono {V V' : View} (hle : Le V V') : ∀ {v : Value} (t : PT), TupT V v t → TupT V' v t
  | _, .nd n ks, h => by
    unfold TupT at h ⊢
    obtain ⟨x, t, b, n1, n2, vs, e, h1, h2, h3⟩ := h
    exact ⟨x, t, b, n1, n2, vs, e, hle _ _ h1, hle _ _ h2, TupTs.mono hle ks h3⟩
theorem TupTs.mono {V V' : View} (hle : Le V V') : ∀ {vs : List Value} (ts : List PT), TupTs V vs ts → TupTs V' vs ts
  | _, [], h => by unfold TupTs at h ⊢; exact h
  | _, t :: ts, h => by
    unfold TupTs at h ⊢
    obtain ⟨v, r, e, h1, h2⟩ := h
    exact ⟨v, r, e, TupT.mono hle t h1, TupTs.mono hle ts h2⟩
end
theorem TupTs.snoc {V : View} {v : Value} {t : PT} (h : TupT V v t) : ∀ {vs : List Value} {ts : List PT}, TupTs V vs ts → TupTs V (vs ++ [v]) (ts ++ [t])
  | _, [], h' => by
    unfold TupTs at h'
    subst h'
    unfold TupTs
    exact ⟨v, [], rfl, h, by unfold TupTs; rfl⟩
  | _, u :: us, h' => by
    unfold TupTs at h'
    obtain ⟨v', r, rfl, h1, h2⟩ := h'
    show TupTs V (v' :: (r ++ [v])) (u :: (us ++ [t]))
    unfold TupTs
    exact ⟨v', _, rfl, h1, TupTs.snoc h h2⟩
theorem TupTs.nil {V : View} : TupTs V [] [] := by unfold TupTs; rfl
theorem TupTs.len {V : View} : ∀ {vs : List Value} {ts : List PT}, TupTs V vs ts → vs.length = ts.length
  | _, [], h => by unfold TupTs at h; subst h; rfl
  | _, t :: ts, h => by
    unfold TupTs at h
    obtain ⟨v, r, rfl, h1, h2⟩ := h
    simp [TupTs.len h2]
mutual
theorem PT.pre_ne : ∀ t : PT, 0 < t.pre.length
  | .nd n ks => by rw [PT.pre]; simp
end
theorem PT.kid_lt {n : Int} {ks : List PT} {k : PT} (h : k ∈ ks) : k.pre.length < (PT.nd n ks).pre.length := by
  rw [PT.pre, List.length_cons]
  have : ∀ ks : List PT, k ∈ ks → k.pre.length ≤ (PT.pres ks).length := by
    intro ks
    induction ks with
    | nil => intro h; cases h
    | cons a r ih =>
      intro h
      rw [PT.pres, List.length_append]
      rcases List.mem_cons.mp h with rfl | h
      · omega
      · have := ih h; omega
  have := this ks h
  omega

/-! ## part Dec -/
section
open PySem.NumText

/-! ## the figures of a number -/
theorem digits_head : ∀ m : Nat, 0 < m → ∀ (c : Char) (r : List Char), Nat.toDigits 10 m = c :: r → c ≠ '0' := by
  intro m
  induction m using Nat.strongRecOn with
  | _ m ih =>
    intro hm c r e
    by_cases h : m < 10
    · rw [Nat.toDigits_of_lt_base h] at e
      cases e
      have key : ∀ d : Nat, d < 10 → 0 < d → Nat.digitChar d ≠ '0' := by decide
      exact key m h hm
    · have hm' : m % 10 < 10 := Nat.mod_lt m (by decide)
      have t : Nat.toDigits 10 (m / 10) ++ Nat.toDigits 10 (m % 10) = Nat.toDigits 10 (10 * (m / 10) + m % 10) := Nat.toDigits_append_toDigits (by decide) (by omega) hm'
      rw [Nat.div_add_mod] at t
      rw [← t] at e
      cases q : Nat.toDigits 10 (m / 10) with
      | nil => have := toDigits_len_ge 10 (m / 10); rw [q] at this; exact absurd this (by decide)
      | cons a b =>
        rw [q] at e
        cases e
        exact ih (m / 10) (by omega) (by omega) _ _ q
theorem decs_nat (m : Nat) : decs ((m : Nat) : Int) = (Nat.toDigits 10 m).map Char.toNat := KIN.signs_num m
structure IsNum (n : Int) (ds : List Nat) : Prop where
  all : AllDigits ds
  ne : ds ≠ []
  len : ds.length ≤ 20
  val : ((digitsVal ds : Nat) : Int) = n
  head : ∀ c r, ds = c :: r → c ≠ 48
theorem decs_ok {n : Int} (h0 : 0 < n) (h1 : n < 10 ^ 20) : IsNum n (decs n) := by
  obtain ⟨m, rfl⟩ := Int.eq_ofNat_of_zero_le (Int.le_of_lt h0)
  have hm : 0 < m := by omega
  rw [decs_nat]
  refine ⟨fun c hc => ?_, fun e => ?_, ?_, by rw [KIN.val_back], fun c r e => ?_⟩
  · obtain ⟨ch, hch, e⟩ := List.mem_map.mp hc
    have r := digit_range (Nat.isDigit_of_mem_toDigits (by decide) (by decide) hch)
    rw [← e]
    exact r
  · have h := toDigits_len_ge 10 m
    rw [List.map_eq_nil_iff.mp e] at h
    exact absurd h (by decide)
  · rw [List.length_map]
    exact toDigits_len_pow (by decide) (by decide) (by omega)
  · cases q : Nat.toDigits 10 m with
    | nil => rw [q] at e; cases e
    | cons a b =>
      rw [q] at e
      cases e
      have := digits_head m hm a b q
      intro h
      refine this ?_
      have e' : a = Char.ofNat a.toNat := (Char.ofNat_toNat a).symm
      rw [e', h]
theorem small_of {n : Int} (h0 : 0 < n) (h1 : n < 10 ^ 20) : n.natAbs.log2 < 1920 := by
  refine Nat.lt_of_le_of_lt ?_ (show 70 < 1920 by decide)
  refine Nat.le_of_lt ((Nat.log2_lt (by omega)).mpr ?_)
  omega

/-! ## reading a row of bytes -/
def nats (xs : List UInt8) : List Nat := xs.map (·.toNat)
theorem nats_len (xs : List UInt8) : (nats xs).length = xs.length := List.length_map ..
theorem at_get {xs : List UInt8} {p : Nat} {c : Nat} {t : List Nat} (h : (nats xs).drop p = c :: t) : p < xs.length ∧ (xs.getD p 0).toNat = c ∧ (nats xs).drop (p + 1) = t := by
  have hp : p < (nats xs).length := by
    rcases Nat.lt_or_ge p (nats xs).length with h1 | h1
    · exact h1
    · rw [List.drop_eq_nil_of_le h1] at h; cases h
  rw [List.drop_eq_getElem_cons hp] at h
  rw [nats_len] at hp
  injection h with h1 h2
  refine ⟨hp, ?_, h2⟩
  rw [List.getD_eq_getElem?_getD, List.getElem?_eq_getElem hp, Option.getD_some, ← h1]
  simp [nats]
theorem at_skip {xs : List UInt8} {p : Nat} {a t : List Nat} (h : (nats xs).drop p = a ++ t) : (nats xs).drop (p + a.length) = t := by
  rw [← List.drop_drop, h, List.drop_left]
theorem at_le {xs : List UInt8} {p : Nat} {a t : List Nat} (h : (nats xs).drop p = a ++ t) (ht : t ≠ []) : p + a.length < xs.length := by
  have h1 := at_skip h
  rcases Nat.lt_or_ge (p + a.length) (nats xs).length with h2 | h2
  · rwa [nats_len] at h2
  · rw [List.drop_eq_nil_of_le h2] at h1; exact absurd h1.symm ht
theorem at_cut {xs : List UInt8} {p : Nat} {a t : List Nat} (h : (nats xs).drop p = a ++ t) : nats ((xs.drop p).take a.length) = a := by
  have e : nats ((xs.drop p).take a.length) = ((nats xs).drop p).take a.length := by simp [nats, List.map_take, List.map_drop]
  rw [e, h, List.take_left]
theorem cut_one {xs : List UInt8} {p : Nat} {c : Nat} {t : List Nat} (h : (nats xs).drop p = c :: t) : nats ((xs.drop p).take (p + 1 - p)) = [c] := by
  have : p + 1 - p = 1 := by omega
  rw [this]
  exact at_cut (a := [c]) h
theorem nats_inj {xs ys : List UInt8} (h : nats xs = nats ys) : xs = ys := by
  exact (List.map_inj_right (fun a b e => UInt8.toNat_inj.mp e)).mp h
theorem nats_beq {xs ys : List UInt8} : (xs == ys) = decide (nats xs = nats ys) := by
  by_cases h : xs = ys
  · subst h; simp
  · have h2 : ¬ nats xs = nats ys := fun e => h (nats_inj e)
    simp [h, h2]
end

/-! ## part Enum -/

/-! ## a loop over enumerate -/
section
variable {prog : Program} {w : World} {A : Around} {R : Rest} {V Vs : View} {L : Addr} {m : Str → Option Value} {s : Shared} {env : Env} {body : List Stmt}
theorem St.extBut2 (σ : St R V L m s) {a b : Addr} {h' : Heap} {tk : Nat} (k : ∀ c o, c ≠ a → c ≠ b → s.heap.get? c = some o → h'.get? c = some o) (ga : Gone V a) (gb : Gone V b) (fa : R.F a = none) (fb : R.F b = none) (na : a ≠ L) (nb : b ≠ L) : St R V L m { s with heap := h', toks := tk } :=
  ⟨σ.ns.at' fun o e => k L o na.symm nb.symm e, fun c o e => k c o (ne_fresh ga e) (ne_fresh gb e) (σ.has c o e), σ.off, fun c o e => k c o (by rintro rfl; rw [fa] at e; cases e) (by rintro rfl; rw [fb] at e; cases e) (σ.keep c o e), σ.disj, σ.offF, σ.gens, σ.os⟩
theorem Rest.fence_none {l : List (Addr × Obj)} {a : Addr} (h : R.F a = none) (hl : ∀ p ∈ l, p.1 ≠ a) : (R.fence l).F a = none := by
  show (l.lookup a).or (R.F a) = none
  rw [lookup_none_of hl, h]; rfl

theorem forEnum {Q : Flow → Shared → Prop} {elts : List PySem.Expr} {kk : Nat} {pos : Pos} {items : List Value} {n : Nat} {e it l : Addr} {old : Value} (hA : A.handled = none) (σ : St R V L m s) (hl : Vs l = some (listOf items.toArray n)) (hle : Le Vs V)
    (he : IsEnum s.heap e it 0 old) (hit : s.heap.IsListIter it l 0) (ge : Gone V e) (gi : Gone V it) (fe : R.F e = none) (fi : R.F it = none) (neL : e ≠ L) (niL : it ≠ L) (hei : e ≠ it)
    (J : Nat → View → (Str → Option Value) → Prop) (hJ : ∀ i V' m', J i V' m' → Le Vs V') (h0 : J 0 V m)
    (step : ∀ R' V' m' s' i x t T, (Gd w R → Gd w R') → (∀ V' m' s', St R' V' L m' s' → St R V' L m' s') → items[i]? = some x → J i V' m' → Gone V' T → St R' (upd V' T (tupOf [Value.int (i : Nat) t, x].toArray 0)) L m' s' →
      wpAny (model prog w) A (assign (.Tuple elts kk pos) env (.ref T)) (fun _ s₁ => wpAny (model prog w) A (execs body env) (fun f s₂ => match f with
        | .next => ∃ V'' m'', J (i + 1) V'' m'' ∧ St R' V'' L m'' s₂
        | .ret v => Q (.ret v) s₂
        | _ => False) NoE s₁) NoE s')
    (done : ∀ V' m' s', J items.length V' m' → St R V' L m' s' → Q .next s') :
    ForK prog w A (.Tuple elts kk pos) body env Q (.ref e) s := by
  refine wpAny_pyIter_enum he ?_
  refine codeAny_forLoop_any (fun k s' => ∃ i V' m' old, k = items.length + 1 - i ∧ i ≤ items.length ∧ St R V' L m' s' ∧ Gone V' e ∧ Gone V' it ∧ IsEnum s'.heap e it ((i : Nat) : Int) old ∧ s'.heap.IsListIter it l i ∧ J i V' m') ?_ (items.length + 1) ⟨0, V, m, old, rfl, Nat.zero_le _, σ, ge, gi, he, hit, h0⟩
  rintro k s' ⟨i, V', m', old', rfl, hi, τ, g1, g2, he', hit', j⟩
  have hl' := τ.isList (Le.at (hJ _ _ _ j) hl)
  cases hv : items[i]? with
  | none =>
    have hsz : i = items.length := Nat.le_antisymm hi (by simpa using hv)
    refine wpAny_pyNext_enum_end hA he' hit' hl' (by simpa using hv) fun h₁ hx₁ => wpAny_execs_nil ?_
    exact done V' m' _ (hsz ▸ j) (τ.extBut hx₁ g2 fi niL)
  | some x =>
    have hlt : i < items.length := (List.getElem?_eq_some_iff.mp hv).1
    have hel : @LT.lt Nat _ e s'.heap.objs.size := Heap.lt_size he'
    have hil : @LT.lt Nat _ it s'.heap.objs.size := by obtain ⟨o, ho, _⟩ := id hit'; exact Heap.lt_size ho
    refine wpAny_pyNext_enum_item he' hit' hl' (by simpa using hv) hei fun h₁ heo hit₁ ht₁ hz₁ hk₁ => ?_
    refine wpAny_letOwnedTupleGo_enum heo fun h₂ he₂ hs₂ => ?_
    replace hs₂ : Heap.SameBut e h₁ h₂ := hs₂
    have σa : St R V' L m' { s' with heap := h₂, toks := s'.toks + 1 } := τ.extBut2 (fun c o c1 c2 ec => hs₂.extBut c o c1 (hk₁ c o c1 c2 ec)) g1 g2 fe fi neL niL
    have gT := τ.fresh
    have fT := τ.freshF
    have nT := Nat.ne_of_gt τ.ns.lt
    have hT : h₂.get? s'.heap.objs.size = some (tupOf [Value.int (i : Nat) s'.toks, x].toArray 0) := hs₂.extBut _ _ (Nat.ne_of_gt hel) ht₁
    have neT : e ≠ s'.heap.objs.size := Nat.ne_of_lt hel
    have niT : it ≠ s'.heap.objs.size := Nat.ne_of_lt hil
    generalize s'.heap.objs.size = T at *
    have σb := σa.addNew gT fT nT hT
    have g1' := Gone.upd (o := tupOf [Value.int (i : Nat) s'.toks, x].toArray 0) neT g1
    have g2' := Gone.upd (o := tupOf [Value.int (i : Nat) s'.toks, x].toArray 0) niT g2
    obtain ⟨hG1, σc, back1⟩ := σb.fence1 he₂ g1' fe neL
    obtain ⟨oi, hoi, hoic⟩ := hit₁.extBut hs₂.extBut hei.symm
    obtain ⟨hG2, σd, back2⟩ := σc.fence1 hoi g2' (Rest.fence_none fi (by intro p hp; rw [List.mem_singleton.mp hp]; exact hei)) niL
    refine wpAny_mono (step _ V' m' _ i x s'.toks T (fun G => hG2 w (hG1 w G)) (fun V' m' s' σ' => (back1 _ _ _ (back2 V' m' s' σ').1).1) hv j gT σd) (fun _ s₁ h₁ => ?_) fun _ _ e => e.elim
    refine wpAny_mono h₁ (fun f s₂ h₂' => ?_) fun _ _ e => e.elim
    cases f with
    | next =>
      obtain ⟨V'', m'', j', σ'⟩ := h₂'
      obtain ⟨b1, b2, b3⟩ := back2 _ _ _ σ'
      obtain ⟨c1, c2, c3⟩ := back1 _ _ _ b1
      have hii : ((i + 1 : Nat) : Int) = (i : Int) + 1 := by omega
      exact ⟨items.length + 1 - (i + 1), by omega, i + 1, V'', m'', x, rfl, hlt, c1, c3, b3, by rw [hii]; exact c2, ⟨oi, b2, hoic⟩, j'⟩
    | cont => exact h₂'.elim
    | brk => exact h₂'.elim
    | ret v => exact h₂'
end

/-! ## part Nx -/
/-- what follows a statement, by name -/
def Nx (Q : Flow → Shared → Prop) (P : Shared → Prop) : Prop := ∀ s, P s → Q .next s
def Rt (Q Q0 : Flow → Shared → Prop) : Prop := ∀ v s, Q0 (.ret v) s → Q (.ret v) s
theorem nxt {Q : Flow → Shared → Prop} {P : Shared → Prop} {s : Shared} (h : Nx Q P) (p : P s) : Q .next s := h s p
theorem rtt {Q Q0 : Flow → Shared → Prop} {v : Value} {s : Shared} (h : Rt Q Q0) (p : Q0 (.ret v) s) : Q (.ret v) s := h v s p
theorem consN {M : Model} {A : Around} {E : Value → Shared → Prop} {s : Shared} {env : Env} {st : Stmt} {rest : List Stmt} {Q0 : Flow → Shared → Prop}
    (h : ∀ Q : Flow → Shared → Prop, Nx Q (fun s' => wpAny M A (execs rest env) Q0 E s') → Rt Q Q0 → wpAny M A (exec st env) Q E s) : wpAny M A (execs (st :: rest) env) Q0 E s :=
  wpAny_execs_cons (wpAny_mono (h (fun f s' => match f with | .next => wpAny M A (execs rest env) Q0 E s' | f => Q0 f s') (fun _ p => p) (fun _ _ p => p)) (fun f s' q => by cases f <;> exact q) fun _ _ e => e)
theorem lek {a n k : Nat} (h : a ≤ n) (hn : Nat.ble n k = true) : a ≤ k := Nat.le_trans h (Nat.le_of_ble_eq_true hn)
theorem ltle {a n k : Nat} (h : a < n) (hn : Nat.ble n (k + 1) = true) : a ≤ k := Nat.le_of_lt_succ (Nat.lt_of_lt_of_le h (Nat.le_of_ble_eq_true hn))
theorem i63 {a n : Nat} (h : a < n) (hn : Nat.ble n 1000000 = true) : ((a : Nat) : Int) < 2 ^ 63 := by
  have h1 := Nat.lt_of_lt_of_le h (Nat.le_of_ble_eq_true hn)
  omega
theorem ltk {a n k : Nat} (h : a < n) (hn : Nat.ble n k = true) : a < k := Nat.lt_of_lt_of_le h (Nat.le_of_ble_eq_true hn)
theorem dpt {a b n k : Nat} (h : a = b + 1) (h' : b < n) (hn : Nat.ble n.succ k = true) : a < k := by subst h; exact Nat.lt_of_lt_of_le (Nat.succ_lt_succ h') (Nat.le_of_ble_eq_true hn)
theorem unt {a b n k : Nat} (h : a = b + 3) (h' : b < n) (hn : Nat.ble (n + 3) k = true) : a < k := by subst h; exact Nat.lt_of_lt_of_le (Nat.add_lt_add_right h' 3) (Nat.le_of_ble_eq_true hn)
theorem lt1 {n p i : Nat} (h : n = p + i + 1) : p < n := h ▸ Nat.lt_succ_of_le (Nat.le_add_right p i)
theorem dT {a b : Nat} (h : a < b) : decide ((a : Int) < (b : Int)) = true := decide_eq_true (Int.ofNat_lt.mpr h)
theorem dF {a b : Nat} (h : b ≤ a) : decide ((a : Int) < (b : Int)) = false := decide_eq_false fun x => Nat.not_lt.mpr h (Int.ofNat_lt.mp x)
theorem t6 {a c N P j z k : Nat} (h1 : a + c + 1 = N) (h2 : P = N) (h3 : P + j = z) (h4 : z ≤ 100) (h5 : k ≤ a) : k < 101 := by
  subst h1 h2 h3
  exact Nat.lt_of_le_of_lt h5 (Nat.lt_of_lt_of_le (Nat.lt_succ_of_le (Nat.le_add_right a c)) (Nat.le_trans (Nat.le_add_right _ j) (Nat.le_succ_of_le h4)))
theorem t15 {x a b N P j z : Nat} (h1 : x = a + b) (h2 : a + b + 1 = N) (h3 : P = N) (h4 : P + j = z) : x + (j + 1) = z := by
  subst h1 h2 h3 h4; exact Nat.add_right_comm (a + b) j 1
theorem t13 {x a b N : Nat} (h1 : x = a + b) (h2 : a + b + 1 = N) : x < N := by subst h1 h2; exact Nat.lt_succ_self _
theorem t20 {n : Nat} (h : n < 102) : ((-1 : Int) - ((n : Int) - 1)).natAbs < 1000000 ∧ ((-1 : Int)).natAbs < 1000000 := by
  rw [Int.sub_eq_add_neg, Int.neg_sub, ← Int.add_sub_assoc, Int.add_left_neg, Int.zero_sub, Int.natAbs_neg]
  exact ⟨Nat.lt_trans h (by decide), by decide⟩
theorem t23 {n p i : Nat} (h : n = p + i + 1) : (n : Int) - 1 + (i : Int) * -1 = (p : Nat) := by
  subst h
  rw [Int.natCast_add, Int.natCast_add, Int.natCast_one, Int.add_sub_cancel, Int.mul_neg, Int.mul_one, Int.add_neg_cancel_right]
theorem t29 {n p i q : Nat} (h : n = p + i + 1) (h' : p < q) : n ≤ q + i := by
  subst h; rw [Nat.add_right_comm]; exact Nat.add_le_add_right h' i
theorem t35 {n p i q : Nat} (h : n = p + i + 1) (h1 : n ≤ q + (i + 1)) (h2 : ¬q = p) : n ≤ q + i := by
  have h3 := h1
  rw [h] at h3
  exact t29 h (Nat.lt_of_le_of_ne (Nat.le_of_add_le_add_right (Nat.le_of_succ_le_succ h3)) (Ne.symm h2))
/-- a local name, its kind looked up by the kernel alone -/
theorem stK {M : Model} {A : Around} {E : Value → Shared → Prop} {R : Rest} {V : View} {L : Addr} {m : Str → Option Value} {s : Shared} {env : Env} {x : Str} {v : Value} {Q : Unit → Shared → Prop} (σ : St R V L m s) (h : ∀ s', St R V L (setm m x v) s' → Q () s') (hL : env.locals = L := by rfl) (hk : env.scope.kind = .function := by rfl)
    (hl : env.kindOf x = some .local := by kernel_rfl) : wpAny M A (storeName env x v) Q E s := stL σ h hL hk hl

set_option compiler.extract_closed false
abbrev nm (x : String) : Str := Str.ofString x
local macro_rules | `(tactic| walk_at "look") => `(tactic| first | with_reducible assumption | with_reducible exact setm_same | (with_reducible refine setm_ne (by decide +kernel) ?_; walk_at "look") | rfl)
local macro_rules | `(tactic| walk_at "view") => `(tactic| first | assumption | exact upd_same | exact upd_keep (by walk_at "gone") (by walk_at "view") | exact upd_ne (by walk_at "apart") (by walk_at "view") | exact Le.at (by assumption) (by assumption))
local macro_rules | `(tactic| walk_at "le") => `(tactic| first | exact Le.refl _ | assumption | (refine Le.upd (by walk_at "gone") ?_; walk_at "le") | (refine Le.trans ?_ (by assumption); walk_at "le") | (refine Le.trans (by assumption) ?_; walk_at "le"))
local macro_rules | `(tactic| walk_at "gone") => `(tactic| first | assumption | (refine Gone.of_le ?_ (by assumption); walk_at "le"))
local macro_rules | `(tactic| walk_at "apart") => `(tactic| first | assumption | exact Ne.symm (by assumption) | exact ne_fresh (by assumption) (by walk_at "view") | exact Ne.symm (ne_fresh (by assumption) (by walk_at "view")))
local macro_rules | `(tactic| walk_at "boot") => `(tactic| first | with_reducible exact bt_list | with_reducible exact bt_len | with_reducible exact bt_range | with_reducible exact bt_tuple | with_reducible exact bt_dict | with_reducible exact bt_enumerate | with_reducible exact bt_abs | with_reducible exact bt_int | with_reducible exact bt_str | with_reducible exact bt_bytes | with_reducible exact bt_ord)
local macro_rules | `(tactic| walk_at "glob") => `(tactic| first | with_reducible exact gl_Node | with_reducible exact gl_all_nodes | with_reducible exact gl_numbers_told | with_reducible exact gl_parent_numbers | with_reducible exact gl_thread_with | with_reducible exact gl_Frame | with_reducible exact gl_number_end | with_reducible exact gl_read_threads | with_reducible exact gl_read_member | with_reducible exact gl__law_text | with_reducible exact gl__law_tree | with_reducible exact gl__law_below | with_reducible exact gl__law_top)
local macro_rules | `(tactic| walk_at "nglob") => `(tactic| first | with_reducible exact ng_list | with_reducible exact ng_len | with_reducible exact ng_range | with_reducible exact ng_tuple | with_reducible exact ng_dict | with_reducible exact ng_enumerate | with_reducible exact ng_abs | with_reducible exact ng_int | with_reducible exact ng_str | with_reducible exact ng_bytes | with_reducible exact ng_ord)
local macro_rules | `(tactic| walk_at "globi") => `(tactic| first | with_reducible exact gl_OPENING | with_reducible exact gl_CLOSING | with_reducible exact gl_BLANK | with_reducible exact gl_MOST_NUMBER)
local macro_rules | `(tactic| walk_at "enter") => `(tactic| ((case ho => exact rfl); (case hcd => exact rfl); (case room => (walk_at "dp")); (case handled => assumption); (case bind => exact rfl); (case loc => exact locs rfl); (case hco => exact rfl); (case hgen => exact rfl); (case hk => exact rfl); (case hcell => decide)))
local macro_rules | `(tactic| walk_at "enterC") => `(tactic| ((case ho => exact rfl); (case hcd => exact rfl); (case room => (walk_at "dp")); (case handled => assumption); (case bind => exact rfl); (case kind => (intro L'; (repeat ((refine List.forall_mem_cons.mpr ⟨?_, ?_⟩); focus (first | exact Or.inl rfl | exact Or.inr ⟨rfl, rfl⟩))); exact fun _ h => nomatch h)); (case hco => exact rfl); (case hgen => exact rfl); (case hk => exact rfl)))
local macro_rules | `(tactic| walk_at "ar") => `(tactic| first | assumption | ((with_reducible show @LE.le Nat _ _ _); first | exact lek (by assumption) (by exact rfl) | exact ltle (by assumption) (by exact rfl)) | ((with_reducible show @LT.lt Nat _ _ _); exact ltk (by assumption) (by exact rfl)) | with_reducible exact Int.natCast_nonneg _ | ((with_reducible show @LT.lt Int _ (Nat.cast _) _); exact i63 (by assumption) (by exact rfl)) | omega)
local macro_rules | `(tactic| walk_at "dp") => `(tactic| first | exact ltk (by assumption) (by exact rfl) | exact dpt (by assumption) (by assumption) (by exact rfl) | exact unt (by assumption) (by assumption) (by exact rfl) | omega)
set_option hygiene false
local macro_rules | `(tactic| walk_at "cons") => `(tactic| (refine consN ?_; intro Qn nx rt))
local macro_rules | `(tactic| walk_at "next") => `(tactic| (refine nxt nx ?_; try clear nx rt Qn))
local macro_rules | `(tactic| walk_at "ret") => `(tactic| (refine rtt rt ?_; try clear nx rt Qn))
set_option hygiene true
local macro_rules | `(tactic| walk_at "go") => `(tactic| first
  | ((with_reducible show wpAny _ _ (execs (_ :: _) _) _ _ _); (walk_at "cons"))
  | (with_reducible refine wpAny_execs_nil ?_)
  | (with_reducible refine Subscript_ ?_)
  | ((with_reducible show wpAny _ _ (isTrue (Expr.Compare _ [_] [_] _) _ _) _ _ _); (refine wpAny_isTrue_Compare1 ?_))
  | ((with_reducible show wpAny _ _ (eval (Expr.Compare _ [_] [_] _) _) _ _ _); (refine wpAny_Compare1 ?_))
  | (with_reducible refine isTrue_and_nil ?_)
  | (with_reducible refine isTrue_or_nil ?_)
  | (with_reducible refine isTrue_and ?_)
  | (with_reducible refine isTrue_or ?_)
  | ((with_reducible show wpAny _ _ (isTrue (Expr.Compare _ [_, _] [_, _] _) _ _) _ _ _); (refine isTrue_chain ?_))
  | (with_reducible refine test_link ?_)
  | ((with_reducible show wpAny _ _ (testChain _ _ [_] _) _ _ _); (refine test_last ?_))
  | (with_reducible refine exReturn ?_)
  | ((with_reducible show wpAny _ _ (exec (Stmt.Expr (Expr.Call (Expr.Attribute _ (PySem.Str.ofString "pop") _) _ _ _) _) _) _ _ _); (refine wpAny_Expr_any ?_))
  | ((with_reducible show wpAny _ _ (exec (Stmt.Expr _ _) _) _ _ _); (refine exExpr ?_))
  | (with_reducible refine wpAny_If ?_)
  | ((with_reducible show wpAny _ _ (exec (Stmt.Assign [Expr.Name _ _] (Expr.ListComp _ [_] _ _) _) _) _ _ _); (refine compAssign (by with_unfolding_all rfl) (by with_unfolding_all rfl) (by rfl) (by decide) ?_))
  | ((with_reducible show wpAny _ _ (eval (Expr.ListComp _ [_] _ _) _) _ _ _); (refine compEval (by with_unfolding_all rfl) (by rfl) (by decide) ?_))
  | ((with_reducible show wpAny _ _ (exec (Stmt.For _ _ _ [] _) _) _ _ _); (refine forGo ?_))
  | ((with_reducible show wpAny _ _ (exec (Stmt.Assign [Expr.Name _ _] _ _) _) _ _ _); (refine wpAny_Assign_Name ?_))
  | ((with_reducible show wpAny _ _ (exec (Stmt.Assign [Expr.Tuple _ _ _] _ _) _) _ _ _); (first | refine Assign_Tuple_swapped ?_ | refine Assign_Tuple ?_))
  | ((with_reducible show wpAny _ _ (exec (Stmt.Assign [Expr.Attribute _ _ _] _ _) _) _ _ _); (refine plainObj_wpAny_Assign_Attribute ?_))
  | ((with_reducible show wpAny _ _ (exec (Stmt.Assign [Expr.Subscript _ _ _] _ _) _) _ _ _); (refine wpAny_Assign_Subscript ?_))
  | ((with_reducible show wpAny _ _ (assignInOrder _ _) _ _ _); (first | refine assignInOrder_nil ?_ | refine assignInOrder_cons ?_))
  | (with_reducible refine asName ?_)
  | ((with_reducible show wpAny _ _ (assign (Expr.Tuple _ _ _) _ (Value.ref _)) _ _ _); ((refine asTuple (by assumption) (by assumption) (by walk_at "view") (by exact rfl) (by exact rfl) ?_; intro s' σ')))
  | (with_reducible refine bindName_ ?_)
  | ((with_reducible show wpAny _ _ (eval (Expr.Name _ _) _) _ _ _); (first | ((with_reducible refine' nmL ?g1 ?g2 ?_ (hL := ?g3) (hk := ?g4)); (case g1 => assumption); (case g2 => walk_at "look"); (case g3 => rfl); (case g4 => rfl)) | ((with_reducible refine' nmC ?g1 ?g2 ?g3 ?g4 ?_ (hk := ?g5) (hl := ?g6)); (case g1 => assumption); (case g2 => rfl); (case g3 => walk_at "view"); (case g4 => assumption); (case g5 => rfl); (case g6 => rfl)) | ((with_reducible refine' nmG ?g1 ?g2 ?g3 ?_ (hg := ?g4) (hk := ?g5)); (case g1 => assumption); (case g2 => assumption); (case g3 => walk_at "glob"); (case g4 => rfl); (case g5 => rfl)) | (((with_reducible refine' nmGI ?g1 ?g2 ?g3 ?_ (hg := ?g4) (hk := ?g5)); (case g1 => assumption); (case g2 => assumption); (case g3 => walk_at "globi"); (case g4 => rfl); (case g5 => rfl)); intro t') | ((with_reducible refine' nmB ?g1 ?g2 ?g3 ?g4 ?_ (hg := ?g5) (hb := ?g6) (hk := ?g7)); (case g1 => assumption); (case g2 => assumption); (case g3 => walk_at "nglob"); (case g4 => walk_at "boot"); (case g5 => rfl); (case g6 => rfl); (case g7 => rfl))))
  | ((with_reducible show wpAny _ _ (storeName _ _ _) _ _ _); (first | (((with_reducible refine' stC ?g1 ?g2 ?g3 ?g4 ?_ (hk := ?g5) (hl := ?g6)); (case g1 => assumption); (case g2 => rfl); (case g3 => walk_at "view"); (case g4 => assumption); (case g5 => rfl); (case g6 => rfl)); intro s' oc' hoc' σ') | (((with_reducible refine' stK ?g1 ?_ (hL := ?g2) (hk := ?g3)); (case g1 => assumption); (case g2 => rfl); (case g3 => rfl)); intro s' σ')))
  | ((with_reducible show wpAny _ _ (eval (Expr.Constant (Const.int _) _ _) _) _ _ _); ((((with_reducible refine' cnInt ?g1 ?_); (case g1 => assumption)); intro s' t' σ')))
  | ((with_reducible show wpAny _ _ (eval (Expr.Constant (Const.str _) _ _) _) _ _ _); ((((with_reducible refine' cnStr ?g1 ?_); (case g1 => assumption)); intro s' t' σ')))
  | (with_reducible refine wpAny_Constant_none ?_)
  | (with_reducible refine wpAny_UnaryOp ?_)
  | (with_reducible refine wpAny_BinOp ?_)
  | ((with_reducible show wpAny _ _ (binaryOp Operator.Add (Value.int _ _) (Value.int _ _)) _ _ _); ((((with_reducible refine' aAdd ?g1 ?_); (case g1 => assumption)); intro s' t' σ')))
  | ((with_reducible show wpAny _ _ (binaryOp Operator.Sub (Value.int _ _) (Value.int _ _)) _ _ _); ((((with_reducible refine' aSub ?g1 ?_); (case g1 => assumption)); intro s' t' σ')))
  | (with_reducible refine PyProof.Rows.eq_int ?_)
  | (with_reducible refine PyProof.Rows.ne_int ?_)
  | (with_reducible refine PyProof.Rows.lt_int ?_)
  | (with_reducible refine PyProof.Rows.gt_int ?_)
  | (with_reducible refine PyProof.Rows.le_int ?_)
  | (with_reducible refine wpAny_truthy_bool ?_)
  | ((with_reducible show wpAny _ _ (eval (Expr.Call (Expr.Attribute _ _ _) _ [] _) _) _ _ _); (refine MethodCall_ ?_))
  | ((with_reducible show wpAny _ _ (eval (Expr.Call (Expr.Name _ _) _ [] _) _) _ _ _); (refine Call_ ?_))
  | ((with_reducible show wpAny _ _ (callWith _ (Value.type _) [] _ []) _ _ _); (refine PyProof.Rows.callWith_type1 ?_))
  | ((with_reducible show wpAny _ _ (callWith _ (Value.builtin _) [] _ []) _ _ _); (refine PyProof.Rows.callWith_builtin1 ?_))
  | ((with_reducible show wpAny _ _ (callWith _ (Value.builtin _) [_] _ []) _ _ _); (first | refine callWith_method0 ?_ | refine callWith_method1 ?_))
  | ((with_reducible show wpAny _ _ (callWith _ (Value.ref _) _ _ []) _ _ _); (first | refine callWith_K0 (Gd.K (by assumption) (by assumption)) (by exact rfl) ?_ | refine cwRef (by assumption) (by exact rfl) ?_))
  | ((with_reducible show wpAny _ _ (eval (Expr.Attribute (Expr.Name _ _) _ _) _) _ _ _); (refine Attribute_Name_ ?_))
  | ((with_reducible show wpAny _ _ (eval (Expr.Attribute _ _ _) _) _ _ _); (refine Attribute_any_ ?_))
  | ((with_reducible show wpAny _ _ (getMethod (Value.ref _) (PySem.Str.ofString "pop") _) _ _ _); (((with_reducible refine' lsMeth ?g1 ?g2 PySem.F.slot_list_pop PySem.F.type_list_pop ?_); (case g1 => assumption); (case g2 => walk_at "view"))))
  | ((with_reducible show wpAny _ _ (getMethod (Value.ref _) (PySem.Str.ofString "append") _) _ _ _); (((with_reducible refine' lsMeth ?g1 ?g2 PySem.F.slot_list_append PySem.F.type_list_append ?_); (case g1 => assumption); (case g2 => walk_at "view"))))
  | ((with_reducible show wpAny _ _ (getMethod (Value.ref _) (PySem.Str.ofString "extend") _) _ _ _); (((with_reducible refine' lsMeth ?g1 ?g2 PySem.F.slot_list_extend PySem.F.type_list_extend ?_); (case g1 => assumption); (case g2 => walk_at "view"))))
  | (with_reducible refine PySem.GM.join ?_)
  | (with_reducible refine PySem.GM.replace ?_)
  | (with_reducible refine PySem.GM.split ?_)
  | ((with_reducible show wpAny _ _ (eval (Expr.Dict [] [] _) _) _ _ _); ((((with_reducible refine' dcNil ?g1 ?g2 ?_); (case g1 => assumption); (case g2 => assumption)); intro s' a' o' hm' hf' D' σ')))
  | ((with_reducible show wpAny _ _ (eval (Expr.Constant (Const.bytes _) _ _) _) _ _ _); ((((with_reducible refine' byConst ?g1 ?_); (case g1 => assumption)); intro s' t' σ')))
  | (with_reducible refine PySem.is_none ?_)
  | (with_reducible refine PySem.isNot_none ?_)
  | (with_reducible refine wpAny_IfExp ?_)
  | (with_reducible refine BoolOp_and ?_)
  | (with_reducible refine BoolOp_one ?_)
  | (with_reducible refine wpAny_Constant_bool ?_)
  | (with_reducible refine List_ ?_)
  | (with_reducible refine Tuple_ ?_)
  | (with_reducible refine slStep ?_)
  | (with_reducible refine slUp ?_)
  | (with_reducible refine slLoUp ?_)
  | ((with_reducible show wpAny _ _ (newList _) _ _ _); ((((with_reducible refine' lsNew ?g1 ?_ ?g2); (case g1 => assumption); (case g2 => exact Nat.le_of_ble_eq_true rfl)); intro a' s' hf' σ')))
  | ((with_reducible show wpAny _ _ (newTuple _) _ _ _); ((((with_reducible refine' tpNew ?g1 ?_ ?g2); (case g1 => assumption); (case g2 => exact Nat.le_of_ble_eq_true rfl)); intro a' s' hf' σ')))
  | ((with_reducible show wpAny _ _ (unpackItems (Value.ref _) _ none) _ _ _); ((refine upItems (by assumption) (by assumption) (by walk_at "view") (by exact rfl) ?_; intro s' σ')))
  | ((with_reducible show wpAny _ _ (unaryOp UnaryOp.USub (Value.int _ _)) _ _ _); ((((with_reducible refine' aNeg ?g1 ?_); (case g1 => assumption)); intro s' t' σ')))
  | (with_reducible refine args_nil ?_)
  | ((with_reducible show wpAny _ _ (spliced (backTo _ (starEach (_ :: _) _))) _ _ _); (refine args_cons ?_))
  | ((with_reducible show (_ : Flow → Shared → Prop) Flow.next _); walk_at "next")
  | ((with_reducible show (_ : Flow → Shared → Prop) (Flow.ret _) _); walk_at "ret")
  | ((with_reducible show _ = Value.none ∧ _); refine ⟨rfl, ?_⟩)
  | ((with_reducible show SlK _ _ _ _ _); (refine slK (by assumption) ?_; intro a' s' hf' σ'))
  | ((with_reducible show Frag.In _ _ ∧ _); refine ⟨Gd.K (by assumption) (by assumption), ?_⟩)
  )

set_option compiler.extract_closed true

/-! ## part F2 -/
/-! ## nodes and trees on the heap -/
inductive AT where
  | nd (x : Addr) (n : Int) (ks : List AT)
def AT.addr : AT → Addr
  | .nd x _ _ => x
def AT.num : AT → Int
  | .nd _ n _ => n
def AT.kids : AT → List AT
  | .nd _ _ ks => ks
mutual
def AT.pre : AT → List AT
  | .nd x n ks => .nd x n ks :: AT.pres ks
def AT.pres : List AT → List AT
  | [] => []
  | t :: ts => AT.pre t ++ AT.pres ts
end
def refs (ts : List AT) : List Value := ts.map fun t => .ref t.addr

abbrev fNode : Addr := 76
abbrev fFrame : Addr := 135
/-- an object of class Node: its number, the list of its kids -/
def NodeAt (V : View) (x : Addr) (i : Int) (kl : Addr) : Prop :=
  ∃ dx es n t, V x = some (instObj fNode dx) ∧ V dx = some (dictOf es n) ∧ getL (nm "number") es = some (some (.int i t)) ∧ getL (nm "kids") es = some (some (.ref kl)) ∧ getL (nm "told") es = some none
mutual
def AtV (V : View) : AT → Prop
  | .nd x n ks => (∃ kl ep, NodeAt V x n kl ∧ V kl = some (listOf (refs ks).toArray ep)) ∧ AtVs V ks
def AtVs (V : View) : List AT → Prop
  | [] => True
  | t :: ts => AtV V t ∧ AtVs V ts
end
theorem NodeAt.mono {V V' : View} {x : Addr} {i : Int} {kl : Addr} (h : NodeAt V x i kl) (k : Le V V') : NodeAt V' x i kl := by
  obtain ⟨dx, es, n, t, h1, h2, r⟩ := h
  exact ⟨dx, es, n, t, k _ _ h1, k _ _ h2, r⟩
mutual
theorem AtV.mono {V V' : View} (k : Le V V') : ∀ t : AT, AtV V t → AtV V' t
  | .nd x n ks, h => by
    obtain ⟨⟨kl, ep, h1, h2⟩, h3⟩ := h
    exact ⟨⟨kl, ep, h1.mono k, k _ _ h2⟩, AtVs.mono k ks h3⟩
theorem AtVs.mono {V V' : View} (k : Le V V') : ∀ ts : List AT, AtVs V ts → AtVs V' ts
  | [], _ => trivial
  | t :: ts, h => ⟨AtV.mono k t h.1, AtVs.mono k ts h.2⟩
end
theorem AtVs.append {V : View} : ∀ {ts us : List AT}, AtVs V ts → AtVs V us → AtVs V (ts ++ us)
  | [], _, _, h => h
  | _ :: _, _, h, h' => ⟨h.1, AtVs.append h.2 h'⟩
theorem AT.pres_append : ∀ ts us : List AT, AT.pres (ts ++ us) = AT.pres ts ++ AT.pres us
  | [], _ => rfl
  | t :: ts, us => by
    show AT.pre t ++ AT.pres (ts ++ us) = (AT.pre t ++ AT.pres ts) ++ AT.pres us
    rw [AT.pres_append ts us, List.append_assoc]

section
variable {prog : Program} {w : World} {A : Around} {E : Value → Shared → Prop} {R : Rest} {V : View} {L x : Addr} {m : Str → Option Value} {s : Shared} {Q : Value → Shared → Prop} {i : Int} {kl : Addr}
theorem nodeNumber {expr : Bool} (G : Gd w R) (σ : St R V L m s) (h : NodeAt V x i kl) (k : ∀ s' t, St R V L m s' → Q (.int i t) s') : wpAny (model prog w) A (getAttr (.ref x) (nm "number") expr) Q E s := by
  obtain ⟨dx, es, n, t, h1, h2, h3, h4, h5⟩ := h
  exact inGet G σ h1 h2 (by exact rfl) (by exact rfl) (by exact rfl) (by exact rfl) h3 rfl (fun s' τ => k s' _ τ)
theorem nodeKids {expr : Bool} (G : Gd w R) (σ : St R V L m s) (h : NodeAt V x i kl) (k : ∀ s', St R V L m s' → Q (.ref kl) s') : wpAny (model prog w) A (getAttr (.ref x) (nm "kids") expr) Q E s := by
  obtain ⟨dx, es, n, t, h1, h2, h3, h4, h5⟩ := h
  exact inGet G σ h1 h2 (by exact rfl) (by exact rfl) (by exact rfl) (by exact rfl) h4 rfl (fun s' τ => k s' τ)
end

/-! ## part F3 -/
section
variable {prog : Program} {w : World} {A : Around} {R : Rest} {V : View} {L l : Addr} {m : Str → Option Value} {s : Shared} {Q : Value → Shared → Prop} {n : Nat}

theorem pres_pos {ts : List AT} (h : ts ≠ []) : 0 < (AT.pres ts).length := by
  cases ts with
  | nil => exact absurd rfl h
  | cons t r => cases t with | nd x n ks => simp [AT.pres, AT.pre]

theorem len_pres : ∀ ts : List AT, ts.length ≤ (AT.pres ts).length
  | [] => Nat.le_refl _
  | .nd x n ks :: r => by
    have := len_pres r
    simp only [AT.pres, AT.pre, List.length_append, List.length_cons]; omega

theorem all_nodes_ok (G : Gd w R) (σ : St R V L m s) (hA : A.handled = none) (hd : A.depth < 800) (hu : A.units < 8000) {ts : List AT} (hl : V l = some (listOf (refs ts).toArray n)) (hT : AtVs V ts) (hz : (AT.pres ts).length ≤ 1000) (hz2 : ts.length ≤ 1000)
    (k : ∀ s' V' a n', Le V V' → Gone V a → V' a = some (listOf (refs (AT.pres ts)).toArray n') → St R V' L m s' → Q (.ref a) s') : wpAny (model prog w) A (call (.ref 87) [.ref l]) Q NoE s := by
  refine' callDef G σ (f := 87) (binds := [(nm "nodes", _)]) ?ho ?hcd ?room ?handled ?bind ?loc ?hco ?hgen ?hk ?hcell ?h
  walk_at "enter"
  intro R' A' L' s₁ G' hA' hd' hu' back σ₁
  simp only [bindsM, List.foldl_cons, List.foldl_nil] at σ₁
  repeat (walk_at "go")
  rename_i f s₂ hf σ₂
  refine lsCopy (by assumption) (by walk_at "view") (by simp [refs]; omega) ?_
  intro s₃ c n₃ hc σ₃
  repeat (walk_at "go")
  refine lsRev (by assumption) (by walk_at "view") (by walk_at "view") (by simp [refs]; omega) ?_
  intro s₅ t₀ ht σ₅
  repeat (walk_at "go")
  rename_i s₆ σ₆
  refine whl_start 0 ?_
  refine (fun (V₁ : View) (m₁ : Str → Option Value) (dn : List AT) (st : List AT) (n1 : Nat) (n2 : Nat) (σ₇ : St R' V₁ L' m₁ s₆) (hle : Le V V₁) (hVf : V₁ f = some (listOf (refs dn).toArray n1)) (hVt : V₁ t₀ = some (listOf (refs st).reverse.toArray n2)) (hmf : m₁ (nm "found") = some (.ref f)) (hmt : m₁ (nm "todo") = some (.ref t₀)) (hst : dn ++ AT.pres st = AT.pres ts) (hAt : AtVs V st) => ?_)
    _ _ [] ts _ _ σ₆ (by walk_at "le") (by walk_at "view") (by walk_at "view") (by walk_at "look") (by walk_at "look") rfl hT
  have hft : f ≠ t₀ := by walk_at "apart"
  have hVt0 : Gone V t₀ := by walk_at "gone"
  clear σ₆ σ₂ σ₃ σ₅ ht hc
  obtain ⟨N, hN⟩ : ∃ N, (AT.pres st).length = N := ⟨_, rfl⟩
  induction N using Nat.strongRecOn generalizing V₁ m₁ dn st n1 n2 s₆ with
  | ind N ih =>
  refine whl_turn (k := 0) PassesOwn.never ?_
  repeat (walk_at "go")
  refine lsNeNil (by assumption) (by walk_at "view") (by walk_at "view") (by omega) ?_
  walk_at "go"
  cases st with
  | nil =>
    refine WhlIf.no (by simp [refs]) ?_
    repeat (walk_at "go")
    have e : AT.pres ts = dn := by rw [← hst]; simp [AT.pres]
    refine' k _ _ f n1 ?_ hf ?_ (back _ _ _ (by assumption))
    · walk_at "le"
    · rw [e]; walk_at "view"
  | cons t r =>
    obtain ⟨x, i, ks⟩ := t
    obtain ⟨⟨⟨kl, ep, hN', hkl⟩, hAk⟩, hAr⟩ := hAt
    have hlen : (AT.pre (.nd x i ks)).length + (AT.pres r).length = N := by rw [← hN]; simp [AT.pres]
    have hks : (AT.pre (.nd x i ks)).length = (AT.pres ks).length + 1 := by simp [AT.pre]
    have hdn : dn.length + N ≤ 1000 := by rw [← hN, ← List.length_append, hst]; exact hz
    have hkz := len_pres ks
    have hrz := len_pres r
    refine WhlIf.yes (by simp [refs]) ?_
    have hVt' : V₁ t₀ = some (listOf ((refs r).reverse ++ [Value.ref x]).toArray n2) := by simpa [refs, AT.addr] using hVt
    clear hVt
    repeat (walk_at "go")
    refine lsPop (by assumption) (by walk_at "view") (by simp [refs]; omega) ?_
    intro s₇ n₃' σ₈
    repeat (walk_at "go")
    refine lsAppend (by assumption) (by walk_at "view") (by simp [refs]; omega) ?_
    intro s₈ n₄ σ₉
    repeat (walk_at "go")
    refine nodeKids G' (by assumption) (hN'.mono (by walk_at "le")) ?_
    intro s₉ σ₁₀
    have hkl' := hkl
    repeat (walk_at "go")
    refine lsRev (by assumption) (by walk_at "view") (by walk_at "view") (by simp [refs]; omega) ?_
    intro s₁₀ D hD σ₁₁
    repeat (walk_at "go")
    refine lsExtend (by assumption) (by walk_at "view") (by walk_at "view") (by simp [refs]; omega) ?_
    intro s₁₁ n₅ σ₁₂
    repeat (walk_at "go")
    refine ih (AT.pres (ks ++ r)).length ?_ (dn := dn ++ [.nd x i ks]) (st := ks ++ r) (s₆ := _) (V₁ := _) (m₁ := _) (n1 := n₄) (n2 := n₅) (by assumption) ?_ ?_ ?_ ?_ ?_ ?_ ?_ rfl
    · rw [AT.pres_append, List.length_append]; omega
    · walk_at "le"
    · have : refs (dn ++ [AT.nd x i ks]) = refs dn ++ [Value.ref x] := by simp [refs, AT.addr]
      rw [this]; walk_at "view"
    · have : (refs (ks ++ r)).reverse = (refs r).reverse ++ (refs ks).reverse := by simp [refs]
      rw [this]; walk_at "view"
    · walk_at "look"
    · walk_at "look"
    · rw [← hst, AT.pres_append]; simp [AT.pres, AT.pre]
    · exact AtVs.append hAk hAr
end


/-! ## part F4 -/
theorem ints_of_paired {α : Type} {f : α → Int} {as : List α} {vs : List Value} (h : Paired (fun a v => ∃ t, v = Value.int (f a) t) as vs) : IntsAre vs (as.map f) := by
  induction h with
  | nil => exact .nil
  | cons hh _ ih => obtain ⟨t, rfl⟩ := hh; exact .cons _ _ ih
theorem refs_get {ts : List AT} {i : Nat} {v : Value} (h : (refs ts)[i]? = some v) : ∃ t, ts[i]? = some t ∧ v = .ref t.addr := by
  unfold refs at h
  rw [List.getElem?_map] at h
  cases q : ts[i]? with
  | none => rw [q] at h; cases h
  | some t => rw [q] at h; cases h; exact ⟨t, rfl, rfl⟩
theorem AtVs.get {V : View} : ∀ {ts : List AT} {i : Nat} {t : AT}, AtVs V ts → ts[i]? = some t → AtV V t
  | [], _, _, _, h => by cases h
  | t :: ts, 0, _, h, e => by cases e; exact h.1
  | t :: ts, i + 1, _, h, e => AtVs.get h.2 (by simpa using e)
mutual
theorem AtV.pre {V : View} : ∀ {t : AT}, AtV V t → AtVs V (AT.pre t)
  | .nd _ _ ks, h => ⟨h, AtVs.pres (ts := ks) h.2⟩
theorem AtVs.pres {V : View} : ∀ {ts : List AT}, AtVs V ts → AtVs V (AT.pres ts)
  | [], _ => trivial
  | t :: ts, h => AtVs.append (AtV.pre (t := t) h.1) (AtVs.pres (ts := ts) h.2)
end

theorem AtV.node {V : View} {t : AT} (h : AtV V t) : ∃ kl ep, NodeAt V t.addr t.num kl ∧ V kl = some (listOf (refs t.kids).toArray ep) := by
  cases t with | nd x n ks => exact h.1

theorem NodeAt.fn {V : View} {x : Addr} {i j : Int} {kl kl' : Addr} (h : NodeAt V x i kl) (h' : NodeAt V x j kl') : i = j ∧ kl = kl' := by
  obtain ⟨dx, es, n, t, h1, h2, h3, h4, h5⟩ := h
  obtain ⟨dx', es', n', t', k1, k2, k3, k4, k5⟩ := h'
  rw [h1] at k1; cases k1
  rw [h2] at k2; cases k2
  rw [h3] at k3; cases k3
  rw [h4] at k4; cases k4
  exact ⟨rfl, rfl⟩
open Classical in
/-- the number of the node that a value is -/
noncomputable def numv (V : View) (v : Value) : Int := match v with
  | .ref x => if h : ∃ i kl, NodeAt V x i kl then h.choose else 0
  | _ => 0
theorem numv_eq {V : View} {x : Addr} {i : Int} {kl : Addr} (h : NodeAt V x i kl) : numv V (.ref x) = i := by
  have hx : ∃ i kl, NodeAt V x i kl := ⟨i, kl, h⟩
  unfold numv
  simp only [dif_pos hx]
  obtain ⟨kl', h'⟩ := hx.choose_spec
  exact (h'.fn h).1
theorem list_of_get {α : Type} {vs ws : List α} (hl : vs.length = ws.length) (h : ∀ (i : Nat) (v : α), vs[i]? = some v → ws[i]? = some v) : vs = ws := by
  apply List.ext_getElem? 
  intro i
  cases q : vs[i]? with
  | some v => rw [h i v q]
  | none => 
    rw [List.getElem?_eq_none_iff] at q
    rw [eq_comm, List.getElem?_eq_none_iff]; omega
theorem nums_filter {V : View} : ∀ {us : List AT}, AtVs V us → ((refs us).filter fun v => decide (0 < numv V v)).map (numv V) = (us.map AT.num).filter fun i => 0 < i
  | [], _ => rfl
  | t :: us, h => by
    obtain ⟨kl, ep, hN, _⟩ := AtV.node h.1
    have ih := nums_filter (us := us) h.2
    have e := numv_eq hN
    simp only [refs, List.map_cons, List.filter_cons, e] at ih ⊢
    by_cases q : 0 < t.num
    · simp only [q, decide_true, if_true, List.map_cons, e, ih]
    · simp only [q, decide_false, Bool.false_eq_true, if_false, ih]
theorem nums_all {V : View} : ∀ {us : List AT}, AtVs V us → (refs us).map (numv V) = us.map AT.num
  | [], _ => rfl
  | t :: us, h => by
    obtain ⟨kl, ep, hN, _⟩ := AtV.node h.1
    have ih := nums_all (us := us) h.2
    have e := numv_eq hN
    simp only [refs, List.map_cons, e] at ih ⊢
    rw [ih]

section
variable {prog : Program} {w : World} {A : Around} {R : Rest} {V : View} {L l : Addr} {m : Str → Option Value} {s : Shared} {Q : Value → Shared → Prop} {n : Nat}

theorem numbers_told_ok (G : Gd w R) (σ : St R V L m s) (hA : A.handled = none) (hd : A.depth < 700) (hu : A.units < 7000) {ts : List AT} (hl : V l = some (listOf (refs ts).toArray n)) (hT : AtVs V ts) (hz : (AT.pres ts).length ≤ 1000) (hz2 : ts.length ≤ 1000)
    (k : ∀ s' V' a n' vs, Le V V' → Gone V a → V' a = some (listOf vs.toArray n') → IntsAre vs (((AT.pres ts).map AT.num).filter fun i => 0 < i) → St R V' L m s' → Q (.ref a) s') : wpAny (model prog w) A (call (.ref 92) [.ref l]) Q NoE s := by
  refine' callDef G σ (f := 92) (binds := [(nm "nodes", _)]) ?ho ?hcd ?room ?handled ?bind ?loc ?hco ?hgen ?hk ?hcell ?h
  walk_at "enter"
  intro R' A' L' s₁ G' hA' hd' hu' back σ₁
  simp only [bindsM, List.foldl_cons, List.foldl_nil] at σ₁
  repeat (walk_at "go")
  refine all_nodes_ok G' (by assumption) hA' (by walk_at "dp") (by walk_at "dp") hl hT hz hz2 ?_
  intro s₂ V₂ a n₂ hle hga hVa σ₂
  have hTp : AtVs V₂ (AT.pres ts) := AtVs.mono hle _ (AtVs.pres hT)
  refine compK (by assumption) (wkList hA' hVa) (by simpa [refs] using hz) (fun v => decide (0 < numv V₂ v)) (fun v y _ => ∃ t, y = .int (numv V₂ v) t) (fun _ _ _ _ _ h => h) (by decide) (by rfl) (by rfl) ?_ ?_ ?_
  · intro R₃ V₃ C mc s₃ v i hG₃ hle₃ hv σ₃ hmv
    have G₃ := hG₃ G'
    obtain ⟨t, ht, rfl⟩ := refs_get hv
    obtain ⟨kl, ep, hN, _⟩ := AtV.node (hTp.get ht)
    refine wpAny_tests_one ?_
    repeat (walk_at "go")
    refine nodeNumber G₃ (by assumption) (hN.mono hle₃) ?_
    intro s₄ t₄ σ₄
    repeat (walk_at "go")
    refine ⟨by rw [numv_eq hN], _, hmv, by assumption⟩
  · intro R₃ V₃ C mc s₃ v i hG₃ hle₃ hv hp σ₃ hmv
    have G₃ := hG₃ G'
    obtain ⟨t, ht, rfl⟩ := refs_get hv
    obtain ⟨kl, ep, hN, _⟩ := AtV.node (hTp.get ht)
    repeat (walk_at "go")
    refine nodeNumber G₃ (by assumption) (hN.mono hle₃) ?_
    intro s₄ t₄ σ₄
    refine ⟨_, _, Le.refl _, ⟨t₄, by rw [numv_eq hN]⟩, σ₄⟩
  · intro V₃ D nn ys vs s₃ hle₃ hD hVD hlen hP hF σ₃
    have hvs : vs = refs (AT.pres ts) := list_of_get hlen hP
    subst hvs
    walk_at "ret"
    refine' k _ _ D nn ys ?_ ?_ hVD ?_ (back _ _ _ (by assumption))
    · walk_at "le"
    · walk_at "gone"
    · have := ints_of_paired hF
      rwa [nums_filter hTp] at this
end


/-! ## part F5 -/
def posNums (ts : List AT) : List Int := ((AT.pres ts).map AT.num).filter fun i => 0 < i
def hasNum (i : Int) (t : AT) : Bool := (posNums [t]).any (· == i)
def foundOf (i : Int) (ts : List AT) : Value := match ts.find? (hasNum i) with
  | some t => .ref t.addr
  | none => .none
theorem pres_single (t : AT) : AT.pres [t] = AT.pre t := by simp [AT.pres]
theorem pre_le {ts : List AT} {i : Nat} {t : AT} (h : ts[i]? = some t) : (AT.pre t).length ≤ (AT.pres ts).length := by
  induction ts generalizing i with
  | nil => cases h
  | cons a r ih =>
    have e : (AT.pres (a :: r)).length = (AT.pre a).length + (AT.pres r).length := by simp [AT.pres]
    cases i with
    | zero => cases h; omega
    | succ j => have := ih (i := j) (by simpa using h); omega
theorem ifB {b : Bool} {P Q : Prop} (h1 : b = true → P) (h2 : b = false → Q) : if b = true then P else Q := by
  cases b with
  | true => rw [if_pos rfl]; exact h1 rfl
  | false => rw [if_neg (by decide)]; exact h2 rfl
section
variable {prog : Program} {w : World} {A : Around} {R : Rest} {V : View} {L l : Addr} {m : Str → Option Value} {s : Shared} {Q : Value → Shared → Prop} {n : Nat}

theorem thread_with_ok (G : Gd w R) (σ : St R V L m s) (hA : A.handled = none) (hd : A.depth < 600) (hu : A.units < 6000) {ts : List AT} {i : Int} {ti : Tok} (hl : V l = some (listOf (refs ts).toArray n)) (hT : AtVs V ts) (hz : (AT.pres ts).length ≤ 1000) (hz2 : ts.length ≤ 1000)
    (k : ∀ s' V', Le V V' → St R V' L m s' → Q (foundOf i ts) s') : wpAny (model prog w) A (call (.ref 104) [.ref l, .int i ti]) Q NoE s := by
  refine' callDef G σ (f := 104) (binds := [(nm "nodes", _), (nm "number", _)]) ?ho ?hcd ?room ?handled ?bind ?loc ?hco ?hgen ?hk ?hcell ?h
  walk_at "enter"
  intro R' A' L' s₁ G' hA' hd' hu' back σ₁
  simp only [bindsM, List.foldl_cons, List.foldl_nil] at σ₁
  repeat (walk_at "go")
  refine forK (by assumption) (wkList hA' hl) (Le.refl _) (fun j V' m' => Le V V' ∧ m' (nm "number") = some (.int i ti) ∧ ∀ t ∈ ts.take j, hasNum i t = false) (fun _ _ _ h => h.1) ⟨Le.refl _, by walk_at "look", by simp⟩ ?_ ?_
  · intro R₂ V₂ m₂ s₂ j v hG₂ back₂ hv hj hJ σ₂
    obtain ⟨hle, hm, hno⟩ := hJ
    have G₂ := hG₂ G'
    obtain ⟨t, ht, rfl⟩ := refs_get hv
    repeat (walk_at "go")
    rename_i a' s₃ ha' σ₃
    have hAt := hT.get ht
    have hpre := pre_le ht
    refine numbers_told_ok G₂ σ₃ hA' (by walk_at "dp") (by walk_at "dp") (ts := [t]) (l := a') (by walk_at "view") ⟨AtV.mono (by walk_at "le") t hAt, trivial⟩ (by rw [pres_single]; omega) (by simp) ?_
    intro s₄ V₄ b n₄ vs hle₄ hb hVb hI σ₄
    repeat (walk_at "go")
    refine in_list_ints (σ₄.isList hVb) hI ?_
    repeat (walk_at "go")
    refine ifB (b := hasNum i t) (fun hb => ?_) (fun hb => ?_)
    · repeat (walk_at "go")
      have e : foundOf i ts = .ref t.addr := by
        have : ts.find? (hasNum i) = some t := by
          rw [List.find?_eq_some_iff_getElem]
          have hj' := (List.getElem?_eq_some_iff.mp ht)
          refine ⟨hb, j, hj'.1, hj'.2, fun q hq => ?_⟩
          have hj2 := hj'.1
          have := hno (ts[q]'(by omega)) (List.mem_take_iff_getElem.mpr ⟨q, by omega, rfl⟩)
          rw [this]; rfl
        simp [foundOf, this]
      rw [← e]
      refine' k _ _ ?_ (back _ _ _ (back₂ _ _ _ (by assumption)))
      walk_at "le"
    · repeat (walk_at "go")
      refine ⟨_, _, ?_, by assumption⟩
      refine ⟨by walk_at "le", by walk_at "look", fun u hu => ?_⟩
      rw [List.take_add_one, ht] at hu
      rcases List.mem_append.mp hu with h | h
      · exact hno u h
      · have : u = t := by simpa using h
        rw [this]; exact hb
  · intro V₂ m₂ s₂ hJ σ₂
    obtain ⟨hle, hm, hno⟩ := hJ
    repeat (walk_at "go")
    have e : foundOf i ts = .none := by
      have : ts.find? (hasNum i) = none := by
        rw [List.find?_eq_none]
        intro t ht
        have hlen : (refs ts).length = ts.length := by simp [refs]
        rw [hlen, List.take_length] at hno
        rw [hno t ht]; simp
      simp [foundOf, this]
    have := k s₂ V₂ hle (back _ _ _ σ₂)
    rw [e] at this
    exact this
end


/-! ## part F6 -/
section
variable {prog : Program} {w : World} {A : Around} {R : Rest} {V : View} {L l d : Addr} {m : Str → Option Value} {s : Shared} {Q : Value → Shared → Prop} {n : Nat} {o : Obj} {kvs : List (Int × Value)}

inductive TopOf (par : Int → Int) : Int → Int → Prop
  | here {n : Int} : par n = 0 → TopOf par n n
  | up {n r : Int} : par n ≠ 0 → TopOf par (par n) r → TopOf par n r

def ParOf (kvs : List (Int × Value)) (ns : List Int) (par : Int → Int) : Prop := ∀ n ∈ ns, ∃ t, valueAt kvs n = some (.int (par n) t)

theorem law_top_ok (G : Gd w R) (σ : St R V L m s) (hA : A.handled = none) (hd : A.depth < 600) {ns : List Int} {i r : Int} {t : Tok} (hV : V d = some o) (D : IntDict prog w o kvs) {par : Int → Int} (hp : ParOf kvs ns par) (hc : ∀ n ∈ ns, par n ≠ 0 → par n ∈ ns) (hi : i ∈ ns) (T : TopOf par i r)
    (k : ∀ s' t', St R V L m s' → Q (.int r t') s') : wpAny (model prog w) A (call (.ref 182) [.ref d, .int i t]) Q NoE s := by
  refine' callDef G σ (f := 182) (binds := [(nm "above_of", _), (nm "number", _)]) ?ho ?hcd ?room ?handled ?bind ?loc ?hco ?hgen ?hk ?hcell ?h
  walk_at "enter"
  intro R' A' L' s₁ G' hA' hd' hu' back σ₁
  simp only [bindsM, List.foldl_cons, List.foldl_nil] at σ₁
  repeat (walk_at "go")
  refine whl_start 0 ?_
  obtain ⟨m₁, σ₂, hm1, hm2⟩ : ∃ m₁, St R' V L' m₁ s₁ ∧ m₁ (nm "above_of") = some (.ref d) ∧ m₁ (nm "number") = some (.int i t) := ⟨_, σ₁, by walk_at "look", by walk_at "look"⟩
  clear σ₁ σ
  induction T generalizing s₁ m₁ t with
  | here h0 =>
    obtain ⟨t0, hv⟩ := hp _ hi
    refine whl_turn (k := 0) PassesOwn.never ?_
    repeat (walk_at "go")
    refine dcItem (by assumption) hV D hv ?_
    intro s' σ'
    repeat (walk_at "go")
    refine WhlIf.no (by simp [h0]) ?_
    repeat (walk_at "go")
    exact k _ _ (back _ _ _ (by assumption))
  | up h0 T ih =>
    obtain ⟨t0, hv⟩ := hp _ hi
    refine whl_turn (k := 0) PassesOwn.never ?_
    repeat (walk_at "go")
    refine dcItem (by assumption) hV D hv ?_
    intro s' σ'
    repeat (walk_at "go")
    refine WhlIf.yes (by simp [h0]) ?_
    repeat (walk_at "go")
    refine dcItem (by assumption) hV D hv ?_
    intro s'' σ''
    repeat (walk_at "go")
    exact ih (hc _ hi h0) k _ _ (by assumption) (by walk_at "look") (by walk_at "look")

/-! ### `_law_below` -/
def BelowAt (prog : Program) (w : World) (V : View) (d : Addr) (keys : List Int) (kf : Int → List Int) : Prop :=
  ∃ o kvs, V d = some o ∧ IntDict prog w o kvs ∧ ∀ k ∈ keys, ∃ a vs n, valueAt kvs k = some (.ref a) ∧ V a = some (listOf vs.toArray n) ∧ IntsAre vs (kf k)
theorem BelowAt.mono {V' : View} {keys : List Int} {kf : Int → List Int} (h : BelowAt prog w V d keys kf) (hle : Le V V') : BelowAt prog w V' d keys kf := by
  obtain ⟨o, kvs, h1, h2, h3⟩ := h
  refine ⟨o, kvs, hle _ _ h1, h2, fun k hk => ?_⟩
  obtain ⟨a, vs, n, e1, e2, e3⟩ := h3 k hk
  exact ⟨a, vs, n, e1, hle _ _ e2, e3⟩

theorem stored_new {kvs : List (Int × Value)} {k : Int} {v : Value} (h : k ∉ kvs.map (·.1)) : stored kvs k v = kvs ++ [(k, v)] := by
  unfold stored
  rw [if_neg]
  intro hh
  rw [List.any_eq_true] at hh
  obtain ⟨p, hp, e⟩ := hh
  exact h (List.mem_map.mpr ⟨p, hp, by simpa using e⟩)
theorem storedAll_nodup : ∀ (ps kvs : List (Int × Value)), ((kvs ++ ps).map (·.1)).Nodup → storedAll kvs ps = kvs ++ ps
  | [], kvs, _ => by simp [storedAll]
  | p :: ps, kvs, h => by
    have e : kvs ++ p :: ps = (kvs ++ [p]) ++ ps := by simp
    have hn : p.1 ∉ kvs.map (·.1) := by
      rw [List.map_append, List.map_cons] at h
      obtain ⟨_, h2, h3⟩ := List.nodup_append.mp h
      exact fun hm => h3 _ hm _ List.mem_cons_self rfl
    show storedAll (stored kvs p.1 p.2) ps = _
    rw [stored_new hn, storedAll_nodup ps (kvs ++ [(p.1, p.2)]) (by rw [show (kvs ++ [(p.1, p.2)]) ++ ps = kvs ++ p :: ps by simp]; exact h)]
    simp
theorem valueAt_mem {kvs : List (Int × Value)} (h : (kvs.map (·.1)).Nodup) {p : Int × Value} (hp : p ∈ kvs) : valueAt kvs p.1 = some p.2 := by
  induction kvs with
  | nil => cases hp
  | cons q r ih =>
    rw [List.map_cons, List.nodup_cons] at h
    unfold valueAt
    rw [List.find?_cons]
    rcases List.mem_cons.mp hp with rfl | hp
    · simp
    · have : ¬ q.1 = p.1 := fun e => h.1 (List.mem_map.mpr ⟨p, hp, e.symm⟩)
      simp only [this, decide_false]
      exact ih h.2 hp

/-- the pairs of numbers and new lists -/
def PairsInv (V₀ : View) (vs ys : List Value) (V : View) : Prop :=
  ∃ as : List (Int × Addr), IntsAre vs (as.map (·.1)) ∧ Paired (fun (p : Int × Addr) y => ∃ x t, y = Value.ref x ∧ V x = some (tupOf #[.int p.1 t, .ref p.2] 0)) as ys ∧ (as.map (·.2)).Nodup ∧ ∀ p ∈ as, V p.2 = some (listOf ([] : List Value).toArray 0) ∧ Gone V₀ p.2
theorem PairsInv.mono {V₀ V V' : View} {vs ys : List Value} (hle : Le V V') (h : PairsInv V₀ vs ys V) : PairsInv V₀ vs ys V' := by
  obtain ⟨as, h1, h2, h3, h4⟩ := h
  exact ⟨as, h1, h2.mono fun p y ⟨x, t, e, hx⟩ => ⟨x, t, e, hle _ _ hx⟩, h3, fun p hp => ⟨hle _ _ (h4 p hp).1, (h4 p hp).2⟩⟩
theorem paired_map {α β γ : Type} {F : β → γ → Prop} {f : α → β} : ∀ {as : List α} {ys : List γ}, Paired (fun a y => F (f a) y) as ys → Paired F (as.map f) ys
  | _, _, .nil => .nil
  | _, _, .cons h r => .cons h (paired_map r)
theorem paired_swap {α β : Type} {F : α → β → Prop} : ∀ {as : List α} {ys : List β}, Paired F as ys → Paired (fun y a => F a y) ys as
  | _, _, .nil => .nil
  | _, _, .cons h r => .cons h (paired_swap r)
theorem paired_len {α β : Type} {F : α → β → Prop} : ∀ {as : List α} {ys : List β}, Paired F as ys → as.length = ys.length
  | _, _, .nil => rfl
  | _, _, .cons _ r => by simp [paired_len r]
theorem nodup_inj {α β : Type} {f : α → β} : ∀ {l : List α}, (l.map f).Nodup → ∀ {p q : α}, p ∈ l → q ∈ l → f p = f q → p = q
  | [], _, _, _, h, _, _ => nomatch h
  | a :: r, hn, p, q, hp, hq, e => by
    rw [List.map_cons, List.nodup_cons] at hn
    rcases List.mem_cons.mp hp with h1 | h1 <;> rcases List.mem_cons.mp hq with h2 | h2
    · rw [h1, h2]
    · exact (hn.1 (List.mem_map.mpr ⟨q, h2, by rw [← e, h1]⟩)).elim
    · exact (hn.1 (List.mem_map.mpr ⟨p, h1, by rw [e, h2]⟩)).elim
    · exact nodup_inj hn.2 h1 h2 e
theorem intsAre_fn {vs : List Value} {ns ms : List Int} (h : IntsAre vs ns) (h' : IntsAre vs ms) : ns = ms := by
  rw [← h.nums, ← h'.nums]

theorem law_below_ok (G : Gd w R) (σ : St R V L m s) (hA : A.handled = none) (hd : A.depth < 600) {vs : List Value} {ns : List Int} (hV : V d = some o) (D : IntDict prog w o kvs) (hl : V l = some (listOf vs.toArray n)) (hI : IntsAre vs ns) (hz : ns.length ≤ 100)
    {par : Int → Int} (hp : ParOf kvs ns par) (hc : ∀ n ∈ ns, par n ∈ 0 :: ns) (hn : (0 :: ns).Nodup)
    (k : ∀ s' V' a, Le V V' → BelowAt prog w V' a (0 :: ns) (fun p => ns.filter fun i => par i = p) → St R V' L m s' → Q (.ref a) s') : wpAny (model prog w) A (call (.ref 175) [.ref d, .ref l]) Q NoE s := by
  refine' callDef G σ (f := 175) (binds := [(nm "above_of", _), (nm "numbers", _)]) ?ho ?hcd ?room ?handled ?bind ?loc ?hco ?hgen ?hk ?hcell ?h
  walk_at "enter"
  intro R' A' L' s₁ G' hA' hd' hu' back σ₁
  simp only [bindsM, List.foldl_cons, List.foldl_nil] at σ₁
  repeat (walk_at "go")
  have hvl : vs.length = ns.length := hI.length
  refine compKI (by assumption) (wkList hA' hl) (by omega) (fun _ => true) (PairsInv V) (fun _ _ _ _ => PairsInv.mono) ⟨[], .nil, .nil, List.nodup_nil, fun p hp => nomatch hp⟩ (by decide) (by rfl) (by rfl) ?_ ?_ ?_
  · intro R₃ V₃ C mc s₃ v i hG₃ hle₃ hv σ₃ hmv
    exact wpAny_tests_nil ⟨rfl, _, hmv, σ₃⟩
  · intro R₃ V₃ C mc s₃ v i vs' ys hG₃ hle₃ hv _ σ₃ hmv hInv _
    have G₃ := hG₃ G'
    obtain ⟨j, tj, rfl, hj⟩ := hI.at _ _ hv
    repeat (walk_at "go")
    rename_i a₁ s₄ ha₁ σ₄ a₂ s₅ ha₂ σ₅
    obtain ⟨as, h1, h2, h3, h4⟩ := hInv
    refine ⟨_, _, ?_, ⟨as ++ [(j, a₁)], ?_, ?_, ?_, ?_⟩, σ₅⟩
    · walk_at "le"
    · rw [List.map_append]; exact IntsAre.append h1 (.cons _ _ .nil)
    · refine Paired.snoc (h2.mono fun p y ⟨x, t, e, hx⟩ => ⟨x, t, e, ?_⟩) ⟨a₂, tj, rfl, ?_⟩
      · walk_at "view"
      · walk_at "view"
    · rw [List.map_append, List.nodup_append]
      refine ⟨h3, by simp, fun a ha b hb => ?_⟩
      obtain ⟨p, hp', rfl⟩ := List.mem_map.mp ha
      rw [List.map_singleton, List.mem_singleton] at hb
      subst hb
      exact ne_fresh ha₁ (h4 p hp').1
    · intro p hp'
      rcases List.mem_append.mp hp' with h | h
      · obtain ⟨e1, e2⟩ := h4 p h
        refine ⟨?_, e2⟩
        walk_at "view"
      · rw [List.mem_singleton.mp h]
        refine ⟨?_, ?_⟩
        · walk_at "view"
        · walk_at "gone"
  · intro V₃ D₃ nn ys vs' s₃ hle₃ hD₃ hVD hlen hP hInv σ₃
    have hvs : vs' = vs := list_of_get hlen hP
    subst hvs
    rw [show vs'.filter (fun _ => true) = vs' from List.filter_eq_self.mpr (by simp)] at hInv
    obtain ⟨as, h1, h2, h3, h4⟩ := hInv
    have has : as.map (·.1) = ns := intsAre_fn h1 hI
    have hys := paired_len h2
    have hal : as.length = ns.length := by rw [← has, List.length_map]
    repeat (walk_at "go")
    refine dcOf G' hA' (by assumption) hVD (by omega) (ps := as.map fun p => (p.1, Value.ref p.2)) (paired_swap (paired_map (h2.mono fun p y ⟨x, t, e, hx⟩ => ⟨x, t, 0, e, hx⟩))) ?_
    intro s₄ d₄ o₄ hm₄ hf₄ D₄ σ₄
    have hnn := List.nodup_cons.mp hn
    have hkeys : (as.map fun p => (p.1, Value.ref p.2)).map (·.1) = ns := by rw [List.map_map]; exact has
    have hst : storedAll [] (as.map fun p => (p.1, Value.ref p.2)) = as.map fun p => (p.1, Value.ref p.2) := by
      rw [storedAll_nodup _ _ (by rw [List.nil_append, hkeys]; exact hnn.2)]; rfl
    rw [hst] at D₄
    repeat (walk_at "go")
    rename_i a₀ s₅ ha₀ σ₅ s₆ t₆ σ₆
    refine dcSet (by assumption) (by walk_at "view") D₄ (by rw [List.length_map]; omega) ?_
    intro s₇ o₇ D₇ σ₇
    rw [stored_new (by rw [hkeys]; exact hnn.1)] at D₇
    repeat (walk_at "go")
    obtain ⟨as', has'⟩ : ∃ as', as' = as ++ [((0 : Int), a₀)] := ⟨_, rfl⟩
    have D₈ : IntDict prog w o₇ (as'.map fun p => (p.1, Value.ref p.2)) := by rw [has', List.map_append]; exact D₇
    have hk8 : as'.map (·.1) = ns ++ [0] := by rw [has', List.map_append, has]; rfl
    have hk8n : (as'.map (·.1)).Nodup := by
      rw [hk8, List.nodup_append]
      exact ⟨hnn.2, by simp, fun a ha b hb e => hnn.1 (by rw [List.mem_singleton] at hb; subst hb; exact e ▸ ha)⟩
    have hs8n : (as'.map (·.2)).Nodup := by
      rw [has', List.map_append, List.nodup_append]
      refine ⟨h3, by simp, fun a ha b hb => ?_⟩
      obtain ⟨p, hp', rfl⟩ := List.mem_map.mp ha
      rw [List.map_singleton, List.mem_singleton] at hb
      subst hb
      have e := (h4 p hp').1
      refine ne_fresh ha₀ (o := listOf ([] : List Value).toArray 0) ?_
      walk_at "view"
    have hg8 : ∀ p ∈ as', Gone V p.2 ∧ p.2 ≠ d₄ := fun p hp' => by
      rw [has'] at hp'
      rcases List.mem_append.mp hp' with h | h
      · obtain ⟨e1, e2⟩ := h4 p h
        refine ⟨e2, ne_fresh hf₄ (o := listOf ([] : List Value).toArray 0) ?_⟩
        walk_at "view"
      · rw [List.mem_singleton.mp h]
        refine ⟨?_, ?_⟩
        · walk_at "gone"
        · exact (ne_fresh ha₀ upd_same).symm
    have hval : ∀ p ∈ as', valueAt (as'.map fun p => (p.1, Value.ref p.2)) p.1 = some (.ref p.2) := fun p hp' => by
      have hnd : ((as'.map fun p => (p.1, Value.ref p.2)).map (·.1)).Nodup := by rw [List.map_map]; exact hk8n
      exact valueAt_mem hnd (p := (p.1, Value.ref p.2)) (List.mem_map.mpr ⟨p, hp', rfl⟩)
    have hex : ∀ q ∈ 0 :: ns, ∃ p ∈ as', p.1 = q := fun q hq => by
      have : q ∈ as'.map (·.1) := by
        rw [hk8]
        rcases List.mem_cons.mp hq with rfl | h
        · simp
        · exact List.mem_append_left _ h
      obtain ⟨p, hp', e⟩ := List.mem_map.mp this
      exact ⟨p, hp', e⟩
    have hinj : ∀ p ∈ as', ∀ q ∈ as', p.2 = q.2 → p = q := fun p hp' q hq e => nodup_inj hs8n hp' hq e
    have hinj1 : ∀ p ∈ as', ∀ q ∈ as', p.1 = q.1 → p = q := fun p hp' q hq e => nodup_inj hk8n hp' hq e
    refine forK σ₇ (wkList hA' hl) (by walk_at "le")
      (fun i V' m' => Le V V' ∧ m' (nm "above_of") = some (.ref d) ∧ m' (nm "found") = some (.ref d₄) ∧ V' d₄ = some o₇ ∧
        ∀ p ∈ as', ∃ us e, V' p.2 = some (listOf us.toArray e) ∧ us.length ≤ i ∧ IntsAre us ((ns.take i).filter fun i => par i = p.1)) (fun _ _ _ h => h.1)
      ⟨by walk_at "le", by walk_at "look", by walk_at "look", by walk_at "view", ?_⟩ ?_ ?_
    · intro p hp'
      rw [has'] at hp'
      rcases List.mem_append.mp hp' with h | h
      · obtain ⟨e1, e2⟩ := h4 p h
        have e3 := (hg8 p (by rw [has']; exact hp')).2
        refine ⟨[], 0, ?_, Nat.le_refl _, .nil⟩
        walk_at "view"
      · rw [List.mem_singleton.mp h]
        have e3 := (hg8 (0, a₀) (by rw [has']; simp)).2
        refine ⟨[], 0, ?_, Nat.le_refl _, .nil⟩
        exact upd_ne e3 upd_same
    · intro R₉ V₉ m₉ s₉ i v hG₉ back₉ hv hi hJ σ₉
      obtain ⟨hle, hma, hmf, hVd, hls⟩ := hJ
      have G₉ := hG₉ G'
      obtain ⟨j, tj, rfl, hj⟩ := hI.at _ _ hv
      have hjm : j ∈ ns := List.mem_of_getElem? hj
      obtain ⟨tp, hvp⟩ := hp j hjm
      obtain ⟨q, hq, hq1⟩ := hex _ (hc j hjm)
      obtain ⟨us, e, hVq, hul, hus⟩ := hls q hq
      have hgq := (hg8 q hq).1
      have hvq := hval q hq
      rw [hq1] at hvq
      repeat (walk_at "go")
      refine dcItem (by assumption) (hle.at hV) D hvp ?_
      intro s₁₀ σ₁₀
      repeat (walk_at "go")
      refine dcItem (by assumption) hVd D₈ hvq ?_
      intro s₁₁ σ₁₁
      repeat (walk_at "go")
      refine lsAppend (by assumption) (by walk_at "view") (by omega) ?_
      intro s₁₂ n₁₂ σ₁₂
      repeat (walk_at "go")
      refine ⟨_, _, ?_, by assumption⟩
      refine ⟨by walk_at "le", by walk_at "look", by walk_at "look", ?_, ?_⟩
      · exact upd_ne (hg8 q hq).2.symm hVd
      · intro p hp'
        have htk : ns.take (i + 1) = ns.take i ++ [j] := by rw [List.take_add_one, hj]; rfl
        by_cases hpq : p.2 = q.2
        · have := hinj p hp' q hq hpq
          subst this
          refine ⟨_, _, upd_same, by simp; omega, ?_⟩
          rw [htk, List.filter_append]
          have : [j].filter (fun i => par i = p.1) = [j] := by simp [hq1]
          rw [this]
          exact IntsAre.append hus (.cons _ _ .nil)
        · obtain ⟨us', e', hVp, hul', hus'⟩ := hls p hp'
          refine ⟨_, _, upd_ne hpq hVp, by omega, ?_⟩
          rw [htk, List.filter_append]
          have : [j].filter (fun i => par i = p.1) = [] := by
            have : par j ≠ p.1 := fun e => hpq (by rw [hinj1 p hp' q hq (by rw [← e, hq1])])
            simp [this]
          rw [this, List.append_nil]
          exact hus'
    · intro V₉ m₉ s₉ hJ σ₉
      obtain ⟨hle, hma, hmf, hVd, hls⟩ := hJ
      repeat (walk_at "go")
      refine k _ V₉ _ hle ⟨o₇, _, hVd, D₈, fun q hq => ?_⟩ (back _ _ _ (by assumption))
      obtain ⟨p, hp', rfl⟩ := hex q hq
      obtain ⟨us, e, hVq, hul, hus⟩ := hls p hp'
      rw [hvl, List.take_length] at hus
      exact ⟨p.2, us, e, hval p hp', hVq, hus⟩
end


/-! ## part F7 -/
section
variable {prog : Program} {w : World} {A : Around} {R : Rest} {V : View} {L l d : Addr} {m : Str → Option Value} {s : Shared} {Q : Value → Shared → Prop} {n : Nat} {o : Obj} {kvs : List (Int × Value)}

theorem OKT.inv {keys : List Int} {kf : Int → List Int} {n : Int} {ks : List PT} (h : OKT keys kf (.nd n ks)) : n ∈ keys ∧ ks.map PT.num = kf n ∧ ∀ k ∈ ks, OKT keys kf k := by
  cases h with
  | nd a b c => exact ⟨a, b, c⟩
theorem take_snoc {α : Type} {l : List α} {i : Nat} {a : α} (h : l[i]? = some a) : l.take (i + 1) = l.take i ++ [a] := by
  rw [List.take_add_one, h]; rfl

theorem law_tree_ok {keys : List Int} {kf : Int → List Int} : ∀ (N : Nat) (t : PT) (A : Around) (R : Rest) (V : View) (L : Addr) (m : Str → Option Value) (s : Shared) (Q : Value → Shared → Prop) (tk : Tok), t.pre.length ≤ N → N ≤ 100 → Gd w R → St R V L m s → A.handled = none → A.depth + N < 700 →
    OKT keys kf t → BelowAt prog w V d keys kf → (∀ s' V' v, Le V V' → TupT V' v t → St R V' L m s' → Q v s') → wpAny (model prog w) A (call (.ref 170) [.int t.num tk, .ref d]) Q NoE s := by
  intro N
  induction N with
  | zero => intro t A R V L m s Q tk h; have := PT.pre_ne t; omega
  | succ N ih =>
  intro t A R V L m s Q tk hN hN2 G σ hA hd hT hB k
  obtain ⟨n, ks⟩ := t
  obtain ⟨hk, hks, hT⟩ := hT.inv
  refine' callDefC G σ (f := 170) (binds := [(nm "number", _), (nm "below", _)]) ?ho ?hcd ?room ?handled ?bind ?kind ?hco ?hgen ?hk ?h
  walk_at "enterC"
  intro R' A' L' V₁ s₁ G' hA' hd' hu' back hle₁ hcs hap σ₁
  obtain ⟨hgc, oc, hoc, hdc⟩ := hcs (nm "below") _ rfl
  replace hdc : oc.data = .cell (some (.ref d)) := hdc
  have σ₂ : St R' V₁ L' (setm (fun _ => none) (nm "number") (.int n tk)) s₁ := σ₁
  clear σ₁ hcs hap
  obtain ⟨ob, kvs, hVb, Db, hbs⟩ := hB
  obtain ⟨la, vs, nn, hva, hVl, hI⟩ := hbs n hk
  rw [← hks] at hI
  have hsz : ks.length ≤ N := by
    have : (PT.pre (.nd n ks)).length ≤ N + 1 := hN
    rw [PT.pre, List.length_cons] at this
    have key : ∀ ks : List PT, ks.length ≤ (PT.pres ks).length := by
      intro ks
      induction ks with
      | nil => exact Nat.le_refl _
      | cons a r ih => rw [PT.pres, List.length_append, List.length_cons]; have := PT.pre_ne a; omega
    have := key ks
    omega
  have hvl : vs.length = ks.length := by rw [hI.length, List.length_map]
  repeat (walk_at "go")
  refine dcItem (by assumption) (hle₁.at hVb) Db hva ?_
  intro s₃ σ₃
  refine compKI σ₃ (wkList hA' (hle₁.at hVl)) (by omega) (fun _ => true) (fun vs ys V => TupTs V ys (ks.take vs.length)) (fun _ _ _ _ hle h => TupTs.mono hle _ h) (by simpa using TupTs.nil) (by decide) (by rfl) (by rfl) ?_ ?_ ?_
  · intro R₃ V₃ C mc s₃ v i hG₃ hle₃ hv σ₃ hmv
    exact wpAny_tests_nil ⟨rfl, _, hmv, σ₃⟩
  · intro R₃ V₃ C mc s₃ v i vs' ys hG₃ hle₃ hv _ σ₃ hmv hInv hi
    have G₃ := hG₃ G'
    replace hi : vs'.length = i := hi fun _ => rfl
    obtain ⟨j, tj, rfl, hj⟩ := hI.at _ _ hv
    rw [List.getElem?_map] at hj
    obtain ⟨t, ht, hjt⟩ := Option.map_eq_some_iff.mp hj
    subst hjt
    have htm : t ∈ ks := List.mem_of_getElem? ht
    have hoc₃ := hle₃.at hoc
    repeat (walk_at "go")
    refine ih t A' R₃ V₃ C _ _ _ tj ?_ (by omega) G₃ (by assumption) hA' (by walk_at "dp") (hT t htm) ⟨ob, kvs, ?_, Db, fun q hq => ?_⟩ ?_
    · have := PT.kid_lt (n := n) htm; omega
    · exact hle₃.at (hle₁.at hVb)
    · obtain ⟨a, vs, n, e1, e2, e3⟩ := hbs q hq
      exact ⟨a, vs, n, e1, hle₃.at (hle₁.at e2), e3⟩
    · intro s₅ V₅ v₅ hle₅ hT₅ σ₅
      refine ⟨V₅, _, hle₅, ?_, σ₅⟩
      rw [List.length_append, List.length_singleton, hi, take_snoc ht]
      rw [hi] at hInv
      exact TupTs.snoc hT₅ (TupTs.mono hle₅ _ hInv)
  · intro V₃ D₃ nn ys vs' s₃ hle₃ hD₃ hVD hlen hP hInv σ₃
    have hvs : vs' = vs := list_of_get hlen hP
    subst hvs
    rw [show vs'.filter (fun _ => true) = vs' from List.filter_eq_self.mpr (by simp), hvl, List.take_length] at hInv
    have hys := hInv.len
    repeat (walk_at "go")
    refine tpOf (by assumption) hVD (by omega) ?_
    intro s₄ a₄ ha₄ σ₄
    repeat (walk_at "go")
    rename_i a₅ s₅ ha₅ σ₅
    refine k _ _ _ ?_ ?_ (back _ _ _ σ₅)
    · walk_at "le"
    · unfold TupT
      refine ⟨a₅, tk, a₄, 0, 0, ys, rfl, upd_same, by walk_at "view", ?_⟩
      refine TupTs.mono ?_ _ hInv
      walk_at "le"
end


/-! ## part F8 -/
section
variable {prog : Program} {w : World} {A : Around} {R : Rest} {V : View} {L l d : Addr} {m : Str → Option Value} {s : Shared} {Q : Value → Shared → Prop} {n : Nat} {o : Obj} {kvs : List (Int × Value)}

def Small (n : Int) : Prop := (decs n).length ≤ 20 ∧ n.natAbs.log2 < 1920

mutual
theorem txt_len {keys : List Int} {kf : Int → List Int} (hB : ∀ n ∈ keys, Small n) : ∀ (t : PT), OKT keys kf t → (txt t).length + 2 ≤ 24 * t.pre.length
  | .nd n ks, h => by
    obtain ⟨h1, h2, h3⟩ := h.inv
    have hn := (hB n h1).1
    have hr := rest_len hB ks h3
    rw [txt_nd, PT.pre, List.length_append, List.length_cons]
    omega
theorem rest_len {keys : List Int} {kf : Int → List Int} (hB : ∀ n ∈ keys, Small n) : ∀ (ks : List PT), (∀ k ∈ ks, OKT keys kf k) → (rest ks).length ≤ 1 + 24 * (PT.pres ks).length
  | [], h => by simp [rest]
  | [k], h => by
    have := txt_len hB k (h k (by simp))
    have e : rest [k] = 32 :: txt k := by simp [rest, chain]
    have e2 : (PT.pres [k]).length = k.pre.length := by simp [PT.pres]
    rw [e, e2, List.length_cons]; omega
  | k :: k2 :: r, h => by
    have e : rest (k :: k2 :: r) = 32 :: txts (k :: k2 :: r) := by simp [rest]
    have := txts_len hB (k :: k2 :: r) h
    rw [e, List.length_cons]; omega
theorem txts_len {keys : List Int} {kf : Int → List Int} (hB : ∀ n ∈ keys, Small n) : ∀ (ks : List PT), (∀ k ∈ ks, OKT keys kf k) → (txts ks).length ≤ 24 * (PT.pres ks).length
  | [], h => by simp [txts]
  | k :: r, h => by
    have h1 := txt_len hB k (h k (by simp))
    have h2 := txts_len hB r (fun q hq => h q (by simp [hq]))
    rw [txts, PT.pres]
    simp only [List.length_append, List.length_cons, List.length_nil]
    omega
end

theorem sAddS {E : Value → Shared → Prop} {a b : List Nat} {x y : Str} {t u : Tok} (σ : St R V L m s) (hx : x = S a) (hy : y = S b) (hz : a.length + b.length ≤ 100000) (h : ∀ s' t', St R V L m s' → Q (.str (S (a ++ b)) t') s') : wpAny (model prog w) A (binaryOp .Add (.str x t) (.str y u)) Q E s := by
  subst hx hy
  refine sAdd σ (by rw [S_len, S_len]; exact hz) fun s' t' σ' => ?_
  rw [S_append]; exact h _ _ σ'
theorem str_sp : Str.ofString " " = S [32] := by decide +kernel
theorem str_op : Str.ofString "(" = S [40] := by decide +kernel
theorem str_cl : Str.ofString ")" = S [41] := by decide +kernel
theorem str_nil : Str.ofString "" = S [] := by decide +kernel
theorem strs_of_paired {α : Type} {f : α → Str} {as : List α} {vs : List Value} (h : Paired (fun a v => ∃ t, v = Value.str (f a) t) as vs) : StrsAre vs (as.map f) := by
  induction h with
  | nil => exact .nil
  | cons hh _ ih => obtain ⟨t, rfl⟩ := hh; exact .cons _ _ ih

theorem law_text_ok {keys : List Int} {kf : Int → List Int} (hB : ∀ n ∈ keys, Small n) : ∀ (N : Nat) (t : PT) (A : Around) (R : Rest) (V : View) (L : Addr) (m : Str → Option Value) (s : Shared) (Q : Value → Shared → Prop) (tk : Tok), t.pre.length ≤ N → N ≤ 100 → Gd w R → St R V L m s → A.handled = none → A.depth + N < 700 → A.units + 3 * N < 7000 →
    OKT keys kf t → BelowAt prog w V d keys kf → (∀ s' t', St R V L m s' → Q (.str (S (txt t)) t') s') → wpAny (model prog w) A (call (.ref 165) [.int t.num tk, .ref d]) Q NoE s := by
  intro N
  induction N with
  | zero => intro t A R V L m s Q tk h; have := PT.pre_ne t; omega
  | succ N ih =>
  intro t A R V L m s Q tk hN hN2 G σ hA hd hu hTr hB' k
  obtain ⟨n, ks⟩ := t
  obtain ⟨hk, hks, hT⟩ := hTr.inv
  refine' callDefC G σ (f := 165) (binds := [(nm "number", _), (nm "below", _)]) ?ho ?hcd ?room ?handled ?bind ?kind ?hco ?hgen ?hk ?h
  walk_at "enterC"
  intro R' A' L' V₁ s₁ G' hA' hd' hu' back hle₁ hcs hap σ₁
  obtain ⟨hgc, oc, hoc, hdc⟩ := hcs (nm "below") _ rfl
  replace hdc : oc.data = .cell (some (.ref d)) := hdc
  have σ₂ : St R' V₁ L' (setm (fun _ => none) (nm "number") (.int n tk)) s₁ := σ₁
  clear σ₁ hcs hap
  obtain ⟨ob, kvs, hVb, Db, hbs⟩ := hB'
  obtain ⟨la, vs, nn, hva, hVl, hI⟩ := hbs n hk
  rw [← hks] at hI
  repeat (walk_at "go")
  refine sOfInt (by assumption) (hB n hk).2 ?_
  intro s₃ t₃ σ₃
  repeat (walk_at "go")
  refine dcItem (by assumption) (hle₁.at hVb) Db hva ?_
  intro s₄ σ₄
  repeat (walk_at "go")
  rename_i s₅ σ₅
  refine whl_start 0 ?_
  refine (fun (V₂ : View) (m₂ : Str → Option Value) (acc : List Nat) (tf : Tok) (us : List Value) (nu : Nat) (lb : Addr) (σ₆ : St R' V₂ L' m₂ s₅) (hle₂ : Le V₁ V₂) (hmf : m₂ (nm "found") = some (.str (S acc) tf)) (hmk : m₂ (nm "kids") = some (.ref lb)) (hVu : V₂ lb = some (listOf us.toArray nu)) (hJ : IntsAre us (ks.map PT.num)) (hT2 : (∀ k ∈ ks, OKT keys kf k)) (hacc : acc ++ rest ks = txt (.nd n ks)) (hsz : (PT.pres ks).length ≤ N) => ?main)
    _ _ (decs n) t₃ vs nn la σ₅ (by walk_at "le") (by walk_at "look") (by walk_at "look") ?q0 hI hT ((txt_nd _ _).symm) ?q1
  case q0 =>
    exact Le.at (by walk_at "le") hVl
  case q1 =>
    rw [PT.pre, List.length_cons] at hN; omega
  have hfull := txt_len hB (.nd n ks) (.nd hk hks hT)
  have hfz : (txt (.nd n ks)).length ≤ 3000 := by omega
  clear hfull
  generalize txt (.nd n ks) = full at hacc hfz k
  clear σ₅ σ₄ σ₃ σ₂ hVl hva hI hks hT hN hTr
  obtain ⟨M, hM⟩ : ∃ M, (PT.pres ks).length = M := ⟨_, rfl⟩
  induction M using Nat.strongRecOn generalizing V₂ m₂ acc tf us nu lb ks s₅ with
  | ind M ih2 =>
  have hul : us.length = ks.length := by rw [hJ.length, List.length_map]
  have hksz : ks.length ≤ N := by
    have key : ∀ ks : List PT, ks.length ≤ (PT.pres ks).length := by
      intro ks
      induction ks with
      | nil => exact Nat.le_refl _
      | cons a r ih => rw [PT.pres, List.length_append, List.length_cons]; have := PT.pre_ne a; omega
    have := key ks
    omega
  have hvb2 := hle₂.at hoc
  refine whl_turn (k := 0) PassesOwn.never ?_
  repeat (walk_at "go")
  refine lsLen (by assumption) hVu (by omega) ?_
  intro s₇ t₇ σ₇
  repeat (walk_at "go")
  by_cases h1 : ks.length = 1
  · refine WhlIf.yes (by simp [hul, h1]) ?_
    match ks, h1, hJ, hT2, hacc, hM with
    | [.nd n' ks'], _, hJ, hT2, hacc, hM =>
    obtain ⟨hk', hks', hT'⟩ := (hT2 _ (List.mem_singleton.mpr rfl)).inv
    obtain ⟨la', vs', nn', hva', hVl', hI'⟩ := hbs n' hk'
    rw [← hks'] at hI'
    cases hJ with
    | cons _ tj hJ =>
    cases hJ
    repeat (walk_at "go")
    have he : rest [PT.nd n' ks'] = 32 :: (decs n' ++ rest ks') := by simp [rest, chain, txt_nd]
    have hee : ((PT.pres [PT.nd n' ks']).length) = (PT.pres ks').length + 1 := by simp [PT.pres, PT.pre]
    have hzz : acc.length + 1 + (decs n').length + (rest ks').length ≤ 3000 := by
      rw [← hacc, he] at hfz
      simp only [List.length_append, List.length_cons] at hfz
      omega
    refine sAddS (by assumption) rfl str_sp (by simp; omega) ?_
    intro s₈ t₈ σ₈
    repeat (walk_at "go")
    refine lsItem (by assumption) (by walk_at "view") (by decide) (by decide) (v := .int n' tj) (by exact rfl) ?_
    repeat (walk_at "go")
    refine sOfInt (by assumption) (hB n' hk').2 ?_
    intro s₉ t₉ σ₉
    repeat (walk_at "go")
    refine sAddS (by assumption) rfl (decs_S n') (by simp; omega) ?_
    intro s₁₀ t₁₀ σ₁₀
    repeat (walk_at "go")
    refine lsItem (by assumption) (by walk_at "view") (by decide) (by decide) (v := .int n' tj) (by exact rfl) ?_
    repeat (walk_at "go")
    refine dcItem (by assumption) (hle₂.at (hle₁.at hVb)) Db hva' ?_
    intro s₁₁ σ₁₁
    repeat (walk_at "go")
    refine ih2 (PT.pres ks').length (by omega) (ks := ks') (s₅ := _) (V₂ := _) (m₂ := _) (acc := acc ++ [32] ++ decs n') (tf := t₁₀) (us := vs') (nu := nn') (lb := la') (by assumption) ?_ (by walk_at "look") (by walk_at "look") ?_ hI' hT' ?_ ?_ rfl
    · walk_at "le"
    · exact Le.at (by walk_at "le") hVl'
    · omega
    · rw [← hacc, he]; simp
  · refine WhlIf.no (by simp [hul]; omega) ?_
    repeat (walk_at "go")
    refine lsNeNil (by assumption) (by walk_at "view") (by walk_at "view") (by omega) ?_
    repeat (walk_at "go")
    refine ifB (b := !us.isEmpty) (fun hb => ?_) (fun hb => ?_)
    · have hne : ks ≠ [] := by
        rintro rfl
        cases us with
        | nil => cases hb
        | cons => simp at hul
      have he : rest ks = 32 :: txts ks := by
        unfold rest
        rw [if_neg h1, if_neg (by simpa using hne)]
      have hzz : acc.length + 1 + (txts ks).length ≤ 3000 := by
        rw [← hacc, he] at hfz
        simp only [List.length_append, List.length_cons] at hfz
        omega
      repeat (walk_at "go")
      refine sAddS (by assumption) rfl str_sp (by simp; omega) ?_
      intro s₈ t₈ σ₈
      repeat (walk_at "go")
      refine compKI (by assumption) (wkList hA' (by walk_at "view")) (by omega) (fun _ => true) (fun vs ys _ => Paired (fun k v => ∃ t, v = Value.str (S (40 :: (txt k ++ [41]))) t) (ks.take vs.length) ys) (fun _ _ _ _ _ h => h) (by simpa using Paired.nil) (by decide) (by rfl) (by rfl) ?_ ?_ ?_
      · intro R₃ V₃ C mc s₃ v i hG₃ hle₃ hv σ₃ hmv
        exact wpAny_tests_nil ⟨rfl, _, hmv, σ₃⟩
      · intro R₃ V₃ C mc s₃ v i vs' ys hG₃ hle₃ hv _ σ₃ hmv hInv hi
        have G₃ := hG₃ G'
        replace hi : vs'.length = i := hi fun _ => rfl
        obtain ⟨j, tj, rfl, hj⟩ := hJ.at _ _ hv
        rw [List.getElem?_map] at hj
        obtain ⟨t, ht, hjt⟩ := Option.map_eq_some_iff.mp hj
        subst hjt
        have htm : t ∈ ks := List.mem_of_getElem? ht
        have hoc₃ : V₃ (L' + 1) = some oc := hle₃.at (by walk_at "view")
        have hle₂₃ : Le V₂ V₃ := Le.trans (by walk_at "le") hle₃
        have hkl := txt_len hB t (hT2 t htm)
        have hkp : t.pre.length ≤ N := by
          have := PT.kid_lt (n := 0) htm
          rw [PT.pre, List.length_cons] at this
          omega
        repeat (walk_at "go")
        refine ih t A' R₃ V₃ C _ _ _ tj hkp (by omega) G₃ (by assumption) hA' (by walk_at "dp") (by walk_at "dp") (hT2 t htm) ⟨ob, kvs, ?_, Db, fun q hq => ?_⟩ ?_
        · exact hle₂₃.at (hle₂.at (hle₁.at hVb))
        · obtain ⟨a, vs, n, e1, e2, e3⟩ := hbs q hq
          exact ⟨a, vs, n, e1, hle₂₃.at (hle₂.at (hle₁.at e2)), e3⟩
        · intro s₅ t₅ σ₅
          refine sAddS (by assumption) str_op rfl (by simp; omega) ?_
          intro s₆ t₆ σ₆
          repeat (walk_at "go")
          refine sAddS (by assumption) rfl str_cl (by simp; omega) ?_
          intro s₇ t₇ σ₇
          refine ⟨V₃, _, Le.refl _, ?_, σ₇⟩
          rw [List.length_append, List.length_singleton, hi, take_snoc ht]
          rw [hi] at hInv
          exact Paired.snoc hInv ⟨t₇, by simp⟩
      · intro V₃ D₃ nn ys vs' s₃ hle₃ hD₃ hVD hlen hP hInv σ₃
        have hvs : vs' = us := list_of_get hlen hP
        subst hvs
        rw [show vs'.filter (fun _ => true) = vs' from List.filter_eq_self.mpr (by simp), hul, List.take_length] at hInv
        have hys := paired_len hInv
        repeat (walk_at "go")
        have hw : ((ks.map fun k => S (40 :: (txt k ++ [41]))).map (·.length)).sum = (txts ks).length := by
          rw [txts_flat, List.length_flatten, List.map_map, List.map_map]
          congr 1
        refine join_listW (σ₃.isList hVD) (strs_of_paired (f := fun k => S (40 :: (txt k ++ [41]))) hInv) (by rw [str_nil, S_len]; simp) (by rw [hw, List.length_map]; omega) ?_
        intro t₉ k₉
        have σ₉ := σ₃.tok (tk := k₉)
        have hjoin : Txt.join (Str.ofString "") (ks.map fun k => S (40 :: (txt k ++ [41]))) = S (txts ks) := by
          rw [str_nil, txts_flat]
          have := join_S [] (ks.map fun k => 40 :: (txt k ++ [41])) rfl
          rwa [List.map_map] at this
        refine sAddS (by assumption) rfl hjoin (by simp; omega) ?_
        intro s₁₀ t₁₀ σ₁₀
        repeat (walk_at "go")
        have e : acc ++ [32] ++ txts ks = full := by rw [← hacc, he]; simp
        rw [e]
        refine k _ _ (St.weaken (back _ _ _ (by assumption)) ?_)
        walk_at "le"
    · have hnil : ks = [] := by
        cases us with
        | cons => cases hb
        | nil => simpa using hul.symm
      subst hnil
      repeat (walk_at "go")
      have e : acc = full := by rw [← hacc]; simp [rest]
      subst e
      refine k _ _ (St.weaken (back _ _ _ (by assumption)) ?_)
      walk_at "le"
end


/-! ## part F9 -/
theorem le_hide {V V' : View} {d : Addr} (g : Gone V d) (h : Le V V') : Le V (hide V' d) := fun a o e => by
  have : a ≠ d := ne_fresh g e
  simp only [hide_eq, if_neg this]; exact h a o e
theorem hide_le {V : View} {d : Addr} : Le (hide V d) V := fun a o e => by
  rw [hide_eq] at e
  split at e
  · cases e
  · exact e
theorem hide_gone {V : View} {d : Addr} : Gone (hide V d) d := ⟨by simp [hide_eq]⟩

/-- the pairs that parent_numbers tells -/
def kidPairs (ts : List AT) : List (Int × Int) := ts.flatMap fun t => t.kids.map fun k => (k.num, t.num)
def parPairs (ts : List AT) : List (Int × Int) := ts.map (fun t => (t.num, 0)) ++ kidPairs (AT.pres ts)
theorem kidPairs_append (a b : List AT) : kidPairs (a ++ b) = kidPairs a ++ kidPairs b := by simp [kidPairs]
mutual
theorem keys_pre : ∀ t : AT, (t.num :: (kidPairs (AT.pre t)).map (·.1)).Perm ((AT.pre t).map AT.num)
  | .nd x n ks => by
    have h := keys_pres ks
    show (n :: (kidPairs (AT.nd x n ks :: AT.pres ks)).map (·.1)).Perm (n :: (AT.pres ks).map AT.num)
    refine List.Perm.cons _ (List.Perm.trans (List.Perm.of_eq ?_) h)
    simp [kidPairs, AT.kids, List.map_map, Function.comp_def]
theorem keys_pres : ∀ ts : List AT, (ts.map AT.num ++ (kidPairs (AT.pres ts)).map (·.1)).Perm ((AT.pres ts).map AT.num)
  | [] => by simp [kidPairs, AT.pres]
  | t :: ts => by
    have h1 := keys_pre t
    have h2 := keys_pres ts
    rw [AT.pres, kidPairs_append, List.map_append, List.map_append, List.map_cons]
    refine List.Perm.trans ?_ (h1.append h2)
    simp only [List.cons_append]
    refine List.Perm.cons _ ?_
    rw [← List.append_assoc, ← List.append_assoc]
    exact List.Perm.append_right _ List.perm_append_comm
end
theorem parPairs_keys (ts : List AT) : ((parPairs ts).map (·.1)).Perm ((AT.pres ts).map AT.num) := by
  have := keys_pres ts
  rw [parPairs, List.map_append, List.map_map]
  exact this

theorem mem_pres {t : AT} : ∀ {ts : List AT}, t ∈ ts → t ∈ AT.pres ts
  | a :: r, h => by
    rw [AT.pres, List.mem_append]
    rcases List.mem_cons.mp h with rfl | h
    · left; cases t; simp [AT.pre]
    · exact .inr (mem_pres h)
theorem AtV.kids {V : View} : ∀ {t : AT}, AtV V t → AtVs V t.kids
  | .nd _ _ _, h => h.2
theorem split_at {α : Type} {l : List α} {i : Nat} {a : α} (h : l[i]? = some a) : l = l.take i ++ a :: l.drop (i + 1) := by
  obtain ⟨hi, e⟩ := List.getElem?_eq_some_iff.mp h
  rw [← e, ← List.drop_eq_getElem_cons hi, List.take_append_drop]
def parPre (ts : List AT) (i : Nat) (t : AT) (j : Nat) : List (Int × Int) := (ts.map (fun t => (t.num, 0)) ++ kidPairs ((AT.pres ts).take i)) ++ (t.kids.take j).map fun k => (k.num, t.num)
theorem parPre_split {ts : List AT} {i j : Nat} {t kid : AT} (ht : (AT.pres ts)[i]? = some t) (hk : t.kids[j]? = some kid) : ∃ r, parPairs ts = parPre ts i t j ++ (kid.num, t.num) :: r := by
  refine ⟨(t.kids.drop (j + 1)).map (fun k => (k.num, t.num)) ++ kidPairs ((AT.pres ts).drop (i + 1)), ?_⟩
  have e1 : kidPairs (AT.pres ts) = kidPairs ((AT.pres ts).take i) ++ (t.kids.map (fun k => (k.num, t.num)) ++ kidPairs ((AT.pres ts).drop (i + 1))) := by
    conv => lhs; rw [split_at ht]
    rw [kidPairs_append]
    rfl
  have e2 : t.kids.map (fun k => (k.num, t.num)) = (t.kids.take j).map (fun k => (k.num, t.num)) ++ (kid.num, t.num) :: (t.kids.drop (j + 1)).map fun k => (k.num, t.num) := by
    conv => lhs; rw [split_at hk]
    simp
  rw [parPairs, e1, e2, parPre]
  simp
theorem parPre_next {ts : List AT} {i : Nat} {t kid : AT} {j : Nat} (hk : t.kids[j]? = some kid) : parPre ts i t (j + 1) = parPre ts i t j ++ [(kid.num, t.num)] := by
  unfold parPre
  rw [take_snoc hk]; simp
theorem parPre_end {ts : List AT} {i : Nat} {t : AT} (ht : (AT.pres ts)[i]? = some t) : parPre ts i t t.kids.length = ts.map (fun t => (t.num, 0)) ++ kidPairs ((AT.pres ts).take (i + 1)) := by
  unfold parPre
  rw [List.take_length, take_snoc ht, kidPairs_append]
  simp [kidPairs]

/-- the rows of a dict of ints -/
def Rows (ps : List (Int × Int)) (kvs : List (Int × Value)) : Prop := Paired (fun (p : Int × Int) (q : Int × Value) => q.1 = p.1 ∧ ∃ t, q.2 = .int p.2 t) ps kvs
theorem Rows.keys : ∀ {ps : List (Int × Int)} {kvs : List (Int × Value)}, Rows ps kvs → kvs.map (·.1) = ps.map (·.1)
  | _, _, .nil => rfl
  | _, _, .cons h r => by rw [List.map_cons, List.map_cons, h.1, Rows.keys r]
theorem Rows.value {ps : List (Int × Int)} {kvs : List (Int × Value)} (h : Rows ps kvs) (hn : (ps.map (·.1)).Nodup) {k p : Int} (hm : (k, p) ∈ ps) : ∃ t, valueAt kvs k = some (.int p t) := by
  have key : ∀ {ps : List (Int × Int)} {kvs : List (Int × Value)}, Rows ps kvs → (k, p) ∈ ps → ∃ t, (k, Value.int p t) ∈ kvs := by
    intro ps kvs h
    induction h with
    | nil => intro h; cases h
    | cons hh _ ih =>
      intro hm
      rcases List.mem_cons.mp hm with e | hm
      · subst e
        rename_i q _ _ _
        obtain ⟨q1, q2⟩ := q
        obtain ⟨e1, t, e2⟩ := hh
        have e1' : q1 = k := e1
        have e2' : q2 = .int p t := e2
        subst e1' e2'
        exact ⟨t, List.mem_cons_self⟩
      · obtain ⟨t, h⟩ := ih hm
        exact ⟨t, List.mem_cons_of_mem _ h⟩
  obtain ⟨t, ht⟩ := key h hm
  exact ⟨t, valueAt_mem (p := (k, Value.int p t)) (by rw [h.keys]; exact hn) ht⟩
theorem Rows.snoc {ps : List (Int × Int)} {kvs : List (Int × Value)} {k p : Int} {t : Tok} (h : Rows ps kvs) (hn : k ∉ ps.map (·.1)) : Rows (ps ++ [(k, p)]) (stored kvs k (.int p t)) := by
  rw [stored_new (by rw [h.keys]; exact hn)]
  exact Paired.snoc h ⟨rfl, t, rfl⟩

section
variable {prog : Program} {w : World} {A : Around} {R : Rest} {V : View} {L l d : Addr} {m : Str → Option Value} {s : Shared} {Q : Value → Shared → Prop} {n : Nat} {o : Obj} {kvs : List (Int × Value)}

theorem tops_rows {V V₀ : View} : ∀ {ts : List AT} {ys : List Value}, AtVs V₀ ts → Paired (fun v y => ∃ x t t', y = Value.ref x ∧ V x = some (tupOf #[.int (numv V₀ v) t, .int 0 t'] 0)) (refs ts) ys →
    ∃ ps : List (Int × Value), Paired (fun v (p : Int × Value) => ∃ x t n, v = Value.ref x ∧ V x = some (tupOf #[.int p.1 t, p.2] n)) ys ps ∧ Rows (ts.map fun t => (t.num, 0)) ps
  | [], _, _, .nil => ⟨[], .nil, .nil⟩
  | t :: ts, _, hT, .cons h r => by
    obtain ⟨ps, h1, h2⟩ := tops_rows (ts := ts) hT.2 r
    obtain ⟨x, t1, t2, e, hx⟩ := h
    obtain ⟨kl, ep, hN, _⟩ := AtV.node hT.1
    rw [numv_eq hN] at hx
    exact ⟨(t.num, .int 0 t2) :: ps, .cons ⟨x, t1, 0, e, hx⟩ h1, .cons ⟨rfl, t2, rfl⟩ h2⟩

theorem parent_numbers_ok (G : Gd w R) (σ : St R V L m s) (hA : A.handled = none) (hd : A.depth < 600) (hu : A.units < 6000) {ts : List AT} (hl : V l = some (listOf (refs ts).toArray n)) (hT : AtVs V ts) (hz : (AT.pres ts).length ≤ 100) (hpos : ∀ t ∈ AT.pres ts, 0 < t.num) (hnd : ((AT.pres ts).map AT.num).Nodup)
    (k : ∀ s' V' a o kvs, Le V V' → (a == sysModules) = false → V' a = some o → IntDict prog w o kvs → Rows (parPairs ts) kvs → St R V' L m s' → Q (.ref a) s') : wpAny (model prog w) A (call (.ref 97) [.ref l]) Q NoE s := by
  have htz := len_pres ts
  refine' callDef G σ (f := 97) (binds := [(nm "nodes", _)]) ?ho ?hcd ?room ?handled ?bind ?loc ?hco ?hgen ?hk ?hcell ?h
  walk_at "enter"
  intro R' A' L' s₁ G' hA' hd' hu' back σ₁
  simp only [bindsM, List.foldl_cons, List.foldl_nil] at σ₁
  repeat (walk_at "go")
  have hpt : ∀ t ∈ ts, 0 < t.num := fun t ht => hpos t (mem_pres ht)
  refine compK (by assumption) (wkList hA' (by walk_at "view")) (by simp [refs]; omega) (fun v => decide (0 < numv V v)) (fun v y V' => ∃ x t t', y = Value.ref x ∧ V' x = some (tupOf #[.int (numv V v) t, .int 0 t'] 0)) (fun _ _ _ _ hle ⟨x, t, t', e, hx⟩ => ⟨x, t, t', e, hle _ _ hx⟩) (by decide) (by rfl) (by rfl) ?_ ?_ ?_
  · intro R₃ V₃ C mc s₃ v i hG₃ hle₃ hv σ₃ hmv
    have G₃ := hG₃ G'
    obtain ⟨t, ht, rfl⟩ := refs_get hv
    obtain ⟨kl, ep, hN, _⟩ := AtV.node (hT.get ht)
    refine wpAny_tests_one ?_
    repeat (walk_at "go")
    refine nodeNumber G₃ (by assumption) (hN.mono hle₃) ?_
    intro s₄ t₄ σ₄
    repeat (walk_at "go")
    refine ⟨by rw [numv_eq hN], _, hmv, by assumption⟩
  · intro R₃ V₃ C mc s₃ v i hG₃ hle₃ hv hp σ₃ hmv
    have G₃ := hG₃ G'
    obtain ⟨t, ht, rfl⟩ := refs_get hv
    obtain ⟨kl, ep, hN, _⟩ := AtV.node (hT.get ht)
    repeat (walk_at "go")
    refine nodeNumber G₃ (by assumption) (hN.mono hle₃) ?_
    intro s₄ t₄ σ₄
    repeat (walk_at "go")
    refine ⟨_, _, ?_, ?_, by assumption⟩
    · walk_at "le"
    · exact ⟨_, _, _, rfl, by rw [numv_eq hN]; exact upd_same⟩
  · intro V₃ D nn ys vs s₃ hle₃ hD hVD hlen hP hF σ₃
    have hvs : vs = refs ts := list_of_get hlen hP
    subst hvs
    have hfl : (refs ts).filter (fun v => decide (0 < numv V v)) = refs ts := by
      refine List.filter_eq_self.mpr fun v hv => ?_
      obtain ⟨i, hi⟩ := List.getElem?_of_mem hv
      obtain ⟨t, ht, rfl⟩ := refs_get hi
      obtain ⟨kl, ep, hN, _⟩ := AtV.node (hT.get ht)
      rw [numv_eq hN]
      exact decide_eq_true (hpt t (List.mem_of_getElem? ht))
    rw [hfl] at hF
    have hys := paired_len hF
    have hrl : (refs ts).length = ts.length := by simp [refs]
    obtain ⟨ps, hps, hrows⟩ := tops_rows hT hF
    repeat (walk_at "go")
    refine dcOf G' hA' (by assumption) hVD (by omega) (ps := ps) hps ?_
    intro s₄ d₄ o₄ hm₄ hf₄ D₄ σ₄
    have hst : storedAll [] ps = ps := by
      have hnt : (ts.map AT.num).Nodup := (List.nodup_append.mp ((keys_pres ts).nodup_iff.mpr hnd)).1
      rw [storedAll_nodup _ _ (by rw [List.nil_append, hrows.keys, List.map_map]; exact hnt)]; rfl
    rw [hst] at D₄
    repeat (walk_at "go")
    refine all_nodes_ok G' (by assumption) hA' (by walk_at "dp") (by walk_at "dp") (ts := ts) (l := l) (by walk_at "view") (AtVs.mono (by walk_at "le") _ hT) (by omega) (by omega) ?_
    intro s₅ V₅ a₅ n₅ hle₅ hg₅ hV₅ σ₅
    have hdV : upd V₃ d₄ o₄ d₄ = some o₄ := upd_same
    have hVs : Le V (hide V₅ d₄) := le_hide (by walk_at "gone") (by walk_at "le")
    have hTs : AtVs (hide V₅ d₄) (AT.pres ts) := AtVs.mono hVs _ (AtVs.pres hT)
    have hd₅ : V₅ d₄ = some o₄ := by walk_at "view"
    have hg₅' : a₅ ≠ d₄ := by walk_at "apart"
    have ha₅ : hide V₅ d₄ a₅ = some (listOf (refs (AT.pres ts)).toArray n₅) := by simp only [hide_eq, if_neg hg₅']; exact hV₅
    have hgd : Gone (hide V₅ d₄) d₄ := hide_gone
    have hprl : (refs (AT.pres ts)).length = (AT.pres ts).length := by simp [refs]
    have hkeys : ((parPairs ts).map (·.1)).Nodup := (parPairs_keys ts).nodup_iff.mpr hnd
    have hplen : (parPairs ts).length = (AT.pres ts).length := by
      have := (parPairs_keys ts).length_eq
      simpa using this
    refine forK (by assumption) (wkList hA' ha₅) hide_le
      (fun i V' m' => Le (hide V₅ d₄) V' ∧ m' (nm "found") = some (.ref d₄) ∧ ∃ o kvs, V' d₄ = some o ∧ IntDict prog w o kvs ∧ Rows (ts.map (fun t => (t.num, 0)) ++ kidPairs ((AT.pres ts).take i)) kvs) (fun _ _ _ h => h.1)
      ⟨hide_le, by walk_at "look", _, _, hd₅, D₄, by simpa [kidPairs] using hrows⟩ ?_ ?_
    · intro R₆ V₆ m₆ s₆ i v hG₆ back₆ hv hi hJ σ₆
      have G₆ := hG₆ G'
      obtain ⟨hle₆, hmf, o₆, kvs₆, hVd, D₆, hR₆⟩ := hJ
      obtain ⟨t, ht, rfl⟩ := refs_get hv
      have hAt := hTs.get ht
      obtain ⟨kl, ep, hN, hkl⟩ := AtV.node hAt
      have hkn := hpos t (List.mem_of_getElem? ht)
      repeat (walk_at "go")
      refine nodeKids G₆ (by assumption) (hN.mono hle₆) ?_
      intro s₇ σ₇
      refine forK (by assumption) (wkList hA' hkl) hle₆
        (fun j V' m' => Le (hide V₅ d₄) V' ∧ m' (nm "found") = some (.ref d₄) ∧ m' (nm "node") = some (.ref t.addr) ∧ ∃ o kvs, V' d₄ = some o ∧ IntDict prog w o kvs ∧ Rows (parPre ts i t j) kvs) (fun _ _ _ h => h.1)
        ⟨hle₆, by walk_at "look", by walk_at "look", _, _, hVd, D₆, by simpa [parPre] using hR₆⟩ ?_ ?_
      · intro R₇ V₇ m₇ s₇ j v hG₇ back₇ hv hj hJ σ₇
        have G₇ := hG₇ G₆
        obtain ⟨hle₇, hmf₇, hmn₇, o₇, kvs₇, hVd₇, D₇, hR₇⟩ := hJ
        obtain ⟨kid, hkid, rfl⟩ := refs_get hv
        obtain ⟨kl', ep', hN', hkl'⟩ := AtV.node ((AtV.kids hAt).get hkid)
        obtain ⟨rr, hrr⟩ := parPre_split ht hkid
        have hkn : kid.num ∉ (parPre ts i t j).map (·.1) := by
          rw [hrr, List.map_append, List.map_cons] at hkeys
          exact fun hm => (List.nodup_append.mp hkeys).2.2 _ hm _ List.mem_cons_self rfl
        have hlen : kvs₇.length ≤ 100 := by
          have h1 := paired_len hR₇
          have h2 : (parPairs ts).length = (parPre ts i t j).length + (rr.length + 1) := by rw [hrr]; simp
          omega
        repeat (walk_at "go")
        refine nodeNumber G₇ (by assumption) (hN.mono hle₇) ?_
        intro s₈ t₈ σ₈
        repeat (walk_at "go")
        refine nodeNumber G₇ (by assumption) (hN'.mono hle₇) ?_
        intro s₉ t₉ σ₉
        repeat (walk_at "go")
        refine dcSet (by assumption) hVd₇ D₇ (by omega) ?_
        intro s₁₀ o₁₀ D₁₀ σ₁₀
        repeat (walk_at "go")
        refine ⟨_, _, ?_, by assumption⟩
        refine ⟨?_, by walk_at "look", by walk_at "look", _, _, upd_same, D₁₀, ?_⟩
        · walk_at "le"
        · rw [parPre_next hkid]
          exact hR₇.snoc hkn
      · intro V₇ m₇ s₇ hJ σ₇
        obtain ⟨hle₇, hmf₇, hmn₇, o₇, kvs₇, hVd₇, D₇, hR₇⟩ := hJ
        repeat (walk_at "go")
        refine ⟨_, _, ⟨hle₇, hmf₇, _, _, hVd₇, D₇, ?_⟩, by assumption⟩
        have e : (refs t.kids).length = t.kids.length := by simp [refs]
        rw [e, parPre_end ht] at hR₇
        exact hR₇
    · intro V₇ m₇ s₇ hJ σ₇
      obtain ⟨hle₇, hmf, o₇, kvs₇, hVd, D₇, hR₇⟩ := hJ
      repeat (walk_at "go")
      refine k _ V₇ _ _ _ (Le.trans hVs hle₇) hm₄ hVd D₇ ?_ (back _ _ _ (by assumption))
      rw [hprl, List.take_length] at hR₇
      exact hR₇
end


/-! ## part F10 -/
mutual
def AT.pt : AT → PT
  | .nd _ n ks => .nd n (AT.pts ks)
def AT.pts : List AT → List PT
  | [] => []
  | t :: ts => AT.pt t :: AT.pts ts
end
theorem AT.pts_map : ∀ ts : List AT, AT.pts ts = ts.map AT.pt
  | [] => rfl
  | t :: ts => by rw [AT.pts, AT.pts_map ts]; rfl
theorem AT.pt_eta (t : AT) : t.pt = .nd t.num (t.kids.map AT.pt) := by
  cases t with | nd x n ks => rw [AT.pt, AT.pts_map]; rfl
theorem AT.pre_eta (t : AT) : AT.pre t = t :: AT.pres t.kids := by
  cases t with | nd x n ks => rfl

/-- the links of the told nodes: where each kid stands in the line -/
def LinksOk (V : View) (line : List AT) (lks : List Value) : Prop :=
  ∀ i v, lks[i]? = some v → ∃ t b vs nn idx, line[i]? = some t ∧ v = Value.ref b ∧ V b = some (listOf vs.toArray nn) ∧ IntsAre vs (idx.map fun q : Nat => (q : Int)) ∧ Paired (fun (q : Nat) kid => i < q ∧ line[q]? = some kid) idx t.kids ∧ t.kids.length ≤ 100
theorem LinksOk.mono {V V' : View} {line more : List AT} {lks : List Value} (h : LinksOk V line lks) (hle : Le V V') : LinksOk V' (line ++ more) lks := by
  intro i v hv
  obtain ⟨t, b, vs, nn, idx, h1, h2, h3, h4, h5, h6⟩ := h i v hv
  have up : ∀ {q : Nat} {t : AT}, line[q]? = some t → (line ++ more)[q]? = some t := fun {q t} e => by
    rw [List.getElem?_append_left (List.getElem?_eq_some_iff.mp e).1]; exact e
  exact ⟨t, b, vs, nn, idx, up h1, h2, hle _ _ h3, h4, h5.mono fun q kid ⟨a, b⟩ => ⟨a, up b⟩, h6⟩
theorem LinksOk.snoc {V : View} {line : List AT} {lks : List Value} {t : AT} {b : Addr} {vs : List Value} {nn : Nat} {idx : List Nat} (h : LinksOk V line lks) (ht : line[lks.length]? = some t) (hb : V b = some (listOf vs.toArray nn)) (hI : IntsAre vs (idx.map fun q : Nat => (q : Int))) (hp : Paired (fun (q : Nat) kid => lks.length < q ∧ line[q]? = some kid) idx t.kids) (hk : t.kids.length ≤ 100) :
    LinksOk V line (lks ++ [.ref b]) := by
  intro i v hv
  rcases Nat.lt_trichotomy i lks.length with hi | hi | hi
  · rw [List.getElem?_append_left hi] at hv; exact h i v hv
  · subst hi
    simp at hv
    subst hv
    exact ⟨t, b, vs, nn, idx, ht, rfl, hb, hI, hp, hk⟩
  · rw [List.getElem?_eq_none (by rw [List.length_append]; exact hi)] at hv; cases hv
theorem paired_of_get {α β : Type} {F : α → β → Prop} : ∀ {l1 : List α} {l2 : List β}, l1.length = l2.length → (∀ (i : Nat) (a : α) (b : β), l1[i]? = some a → l2[i]? = some b → F a b) → Paired F l1 l2
  | [], [], _, _ => .nil
  | a :: l1, b :: l2, hl, h => .cons (h 0 a b rfl rfl) (paired_of_get (by simpa using hl) fun i x y hx hy => h (i + 1) x y (by simpa using hx) (by simpa using hy))
theorem paired_get {α β : Type} {F : α → β → Prop} {l1 : List α} {l2 : List β} (h : Paired F l1 l2) : ∀ {i : Nat} {a : α} {b : β}, l1[i]? = some a → l2[i]? = some b → F a b := by
  induction h with
  | nil => intro i a b h; cases h
  | cons hh _ ih =>
    intro i a b h1 h2
    cases i with
    | zero => cases h1; cases h2; exact hh
    | succ i => exact ih (by simpa using h1) (by simpa using h2)
theorem links_new (line ks : List AT) (j : Nat) (hj : j < line.length) : Paired (fun (q : Nat) kid => j < q ∧ (line ++ ks)[q]? = some kid) ((List.range ks.length).map (line.length + ·)) ks := by
  refine paired_of_get (by simp) fun i q kid hq hk => ?_
  rw [List.getElem?_map] at hq
  obtain ⟨c, hc, rfl⟩ := Option.map_eq_some_iff.mp hq
  have hi : i < ks.length := (List.getElem?_eq_some_iff.mp hk).1
  rw [List.getElem?_range hi] at hc
  cases hc
  refine ⟨Nat.lt_of_lt_of_le hj (Nat.le_add_right _ _), ?_⟩
  rw [List.getElem?_append_right (Nat.le_add_right _ _)]
  have e : line.length + i - line.length = i := Nat.add_sub_cancel_left _ _
  rw [e]; exact hk
theorem hide_at {V : View} {d a : Addr} {o : Obj} (h : a ≠ d) (e : V a = some o) : hide V d a = some o := by simp only [hide_eq, if_neg h]; exact e
theorem pre_pos (t : AT) : 0 < (AT.pre t).length := by cases t; simp [AT.pre]
theorem Gone.hide {V : View} {d a : Addr} (h : Gone V a) : Gone (hide V d) a := ⟨by rw [hide_eq]; split <;> first | rfl | exact h.eq⟩
noncomputable def h3 (V : View) (a b c : Addr) : View := hide (hide (hide V a) b) c
section
variable {V V' : View} {a b c x : Addr} {o : Obj}
theorem h3_le : Le (h3 V a b c) V := Le.trans hide_le (Le.trans hide_le hide_le)
theorem h3_g1 : Gone (h3 V a b c) a := Gone.hide (Gone.hide hide_gone)
theorem h3_g2 : Gone (h3 V a b c) b := Gone.hide hide_gone
theorem h3_g3 : Gone (h3 V a b c) c := hide_gone
theorem le_h3 (ga : Gone V a) (gb : Gone V b) (gc : Gone V c) (h : Le V V') : Le V (h3 V' a b c) := le_hide gc (le_hide gb (le_hide ga h))
theorem h3_at (ha : x ≠ a) (hb : x ≠ b) (hc : x ≠ c) (h : V x = some o) : h3 V a b c x = some o := hide_at hc (hide_at hb (hide_at ha h))
end

theorem refs_length (ts : List AT) : (refs ts).length = ts.length := by unfold refs; rw [List.length_map]
section
variable {prog : Program} {w : World} {A : Around} {R : Rest} {V : View} {L l d : Addr} {m : Str → Option Value} {s : Shared} {Q : Value → Shared → Prop} {n : Nat} {o : Obj} {kvs : List (Int × Value)}

theorem told_ok (G : Gd w R) (σ : St R V L m s) (hA : A.handled = none) (hd : A.depth < 600) (hu : A.units < 6000) {t : AT} (hT : AtV V t) (hz : (AT.pre t).length ≤ 100)
    (k : ∀ s' V' v, Le V V' → TupT V' v t.pt → St R V' L m s' → Q v s') : wpAny (model prog w) A (call (.ref 73) [.ref t.addr]) Q NoE s := by
  refine' callDefC G σ (f := 73) (binds := [(nm "self", _)]) ?ho ?hcd ?room ?handled ?bind ?kind ?hco ?hgen ?hk ?h
  walk_at "enterC"
  intro R' A' L' V₁ s₁ G' hA' hd' hu' back hle₁ hcs hap σ₁
  obtain ⟨hgc, oc, hoc, hdc⟩ := hcs (nm "line") _ rfl
  replace hdc : oc.data = .cell none := hdc
  obtain ⟨hgr, orc, horc, hdr⟩ := hcs (nm "rows") _ rfl
  replace hdr : orc.data = .cell none := hdr
  have σ₂ : St R' V₁ L' (setm (fun _ => none) (nm "self") (.ref t.addr)) s₁ := σ₁
  clear σ₁ hcs hap
  repeat (walk_at "go")
  rename_i a₁ _ ga₁ _ a₂ _ ga₂ _ a₃ _ ga₃ _ _ _ _ ocl hocl _ s₃ σ₃
  refine whl_start 0 ?_
  have hrc : V₁ (L' + 1 + 1) = some orc := horc
  have hclr : (L' + 1 : Addr) ≠ L' + 1 + 1 := Nat.ne_of_lt (Nat.lt_succ_self _)
  have hge := pre_pos t
  have e1 : a₁ ≠ L' + 1 := Ne.symm (ne_fresh ga₁ hoc)
  have e2 : a₁ ≠ L' + 1 + 1 := Ne.symm (ne_fresh ga₁ horc)
  have e3 : a₁ ≠ a₂ := ne_fresh ga₂ upd_same
  have e4 : a₂ ≠ L' + 1 := Ne.symm (ne_fresh ga₂ (upd_ne e1.symm hoc))
  have e5 : a₂ ≠ L' + 1 + 1 := Ne.symm (ne_fresh ga₂ (upd_ne e2.symm horc))
  have e6 : a₁ ≠ a₃ := ne_fresh ga₃ (upd_ne e3 upd_same)
  have e7 : a₂ ≠ a₃ := ne_fresh ga₃ upd_same
  refine (fun (V₂ : View) (m₂ : Str → Option Value) (line : List AT) (lks : List Value) (la : Addr) (lk : Addr) (n1 : Nat) (n2 : Nat) (ocl : Obj) (ocr : Obj) (σ₄ : St R' V₂ L' m₂ s₃) (hV0 : Le V (h3 V₂ (L' + 1) (L' + 1 + 1) lk)) (hla : h3 V₂ (L' + 1) (L' + 1 + 1) lk la = some (listOf (refs line).toArray n1)) (hlc : V₂ (L' + 1) = some ocl) (hcl : ocl.data = .cell (some (.ref la))) (hrc : V₂ (L' + 1 + 1) = some ocr) (hcr : ocr.data = .cell none) (hlk : V₂ lk = some (listOf lks.toArray n2)) (hmk : m₂ (nm "links") = some (.ref lk)) (hL : LinksOk (h3 V₂ (L' + 1) (L' + 1 + 1) lk) line lks) (hAl : AtVs V line) (hlz : lks.length ≤ line.length) (hcnt : (AT.pres (line.drop lks.length)).length + lks.length = (AT.pre t).length) (hfst : line[0]? = some t) (nkc : lk ≠ L' + 1) (nkr : lk ≠ L' + 1 + 1) => ?main)
    _ _ [t] [] a₁ a₂ 0 0 ocl orc σ₃ ?q0 ?q1 upd_same hocl ?q2 hdr ?q3 (by walk_at "look") ?q4 ⟨hT, trivial⟩ (by simp) ?q5 rfl e4 e5
  case q0 =>
    refine le_h3 hgc hgr ?_ ?_
    · walk_at "gone"
    · walk_at "le"
  case q1 =>
    exact h3_at e1 e2 e3 (upd_ne e1 (upd_ne e6 (upd_ne e3 upd_same)))
  case q2 =>
    exact upd_ne hclr.symm (upd_keep ga₃ (upd_keep ga₂ (upd_keep ga₁ horc)))
  case q3 =>
    exact upd_ne e4 (upd_ne e7 upd_same)
  case q4 =>
    intro i v h; simp at h
  case q5 =>
    simp [pres_single]
  clear σ₃ σ₂ hocl ga₁ ga₂ ga₃
  have hlen : ∀ (line : List AT) (j : Nat), (AT.pres (line.drop j)).length + j = (AT.pre t).length → line.length < 102 := fun line j h => by
    have := len_pres (line.drop j)
    rw [List.length_drop] at this
    exact Nat.lt_of_le_of_lt (Nat.le_trans (Nat.sub_le_iff_le_add.mp this) (Nat.le_trans (Nat.le_of_eq h) hz)) (by decide)
  obtain ⟨N, hN⟩ : ∃ N, (AT.pres (line.drop lks.length)).length = N := ⟨_, rfl⟩
  induction N using Nat.strongRecOn generalizing V₂ m₂ line lks la n1 n2 ocl ocr s₃ with
  | ind N ih =>
  have hll : line.length < 102 := hlen _ _ hcnt
  have hlz2 : lks.length < 102 := Nat.lt_of_le_of_lt hlz hll
  have hrl : (refs line).length = line.length := refs_length line
  have hrz : (refs line).length < 102 := hrl.symm ▸ hll
  have hla' : V₂ la = some (listOf (refs line).toArray n1) := h3_le _ _ hla
  refine whl_turn (k := 0) PassesOwn.never ?_
  repeat (walk_at "go")
  refine lsLen (by assumption) hlk (by walk_at "ar") ?_
  intro s₅ t₅ σ₅
  repeat (walk_at "go")
  refine lsLen (by assumption) hla' (by walk_at "ar") ?_
  intro s₆ t₆ σ₆
  repeat (walk_at "go")
  rw [hrl]
  by_cases hlt : lks.length < line.length
  · refine WhlIf.yes (dT hlt) ?_
    have hlz3 := hlz2
    obtain ⟨nd, hnd⟩ : ∃ nd, line[lks.length]? = some nd := ⟨_, List.getElem?_eq_getElem hlt⟩
    obtain ⟨kl, ep, hNd, hkl⟩ := AtV.node (hAl.get hnd)
    have hVk : V₂ kl = some (listOf (refs nd.kids).toArray ep) := h3_le _ _ (hV0 _ _ hkl)
    have hNd2 := hNd.mono (Le.trans hV0 h3_le)
    have hdr : line.drop lks.length = nd :: line.drop (lks.length + 1) := by
      obtain ⟨h1, h2⟩ := List.getElem?_eq_some_iff.mp hnd
      rw [← h2]; exact List.drop_eq_getElem_cons h1
    have hcn : (AT.pres nd.kids).length + (AT.pres (line.drop (lks.length + 1))).length + 1 = N := by
      rw [← hN, hdr, AT.pres, AT.pre_eta, List.length_append, List.length_cons]; exact Nat.add_right_comm _ _ _
    have hkz := len_pres nd.kids
    have hkr : (refs nd.kids).length = nd.kids.length := refs_length nd.kids
    have hk1 : nd.kids.length < 101 := t6 hcn hN hcnt hz hkz
    have hkrz : (refs nd.kids).length < 101 := hkr.symm ▸ hk1
    repeat (walk_at "go")
    refine lsLen (by assumption) hlk (by walk_at "ar") ?_
    intro s₇ t₇ σ₇
    repeat (walk_at "go")
    refine lsItem (by assumption) hla' (by walk_at "ar") (by walk_at "ar") (v := .ref nd.addr) (by simp [refs, hnd]) ?_
    repeat (walk_at "go")
    refine nodeKids G' (by assumption) hNd2 ?_
    intro s₈ σ₈
    repeat (walk_at "go")
    refine lsLen (by assumption) hVk (by walk_at "ar") ?_
    intro s₉ t₉ σ₉
    repeat (walk_at "go")
    refine rgOne (by assumption) ?_
    intro s₁₀ rg tr1 tr2 tr3 hrg σ₁₀
    rw [hkr] at σ₁₀
    refine compKI (by assumption) (wkRange (n := nd.kids.length) hA' upd_same (rgSmall (by walk_at "ar")) (rgLen _)) (by walk_at "ar") (fun _ => true) (fun vs ys _ => IntsAre ys ((List.range vs.length).map fun c => ((line.length + c : Nat) : Int))) (fun _ _ _ _ _ h => h) .nil (by decide) (by rfl) (by rfl) ?_ ?_ ?_
    · intro R₃ V₃ C mc s₃ v i hG₃ hle₃ hv σ₃ hmv
      exact wpAny_tests_nil ⟨rfl, _, hmv, σ₃⟩
    · intro R₃ V₃ C mc s₃ v i vs' ys hG₃ hle₃ hv _ σ₃ hmv hInv hi
      have G₃ := hG₃ G'
      replace hi : vs'.length = i := hi fun _ => rfl
      obtain ⟨tv, rfl⟩ := hv
      have hlc₃ : V₃ (L' + 1) = some ocl := hle₃.at (upd_keep hrg hlc)
      have hla₃ : V₃ la = some (listOf (refs line).toArray n1) := hle₃.at (upd_keep hrg hla')
      repeat (walk_at "go")
      refine lsLen (by assumption) hla₃ (by walk_at "ar") ?_
      intro s₁₁ t₁₁ σ₁₁
      repeat (walk_at "go")
      rename_i s₁₂ t₁₂ σ₁₂
      refine ⟨_, _, Le.refl _, ?_, σ₁₂⟩
      rw [List.length_append, List.length_singleton, List.range_succ, List.map_append]
      refine IntsAre.append hInv ?_
      have e : (((refs line).length : Nat) : Int) + (0 + (i : Int) * 1) = ((line.length + vs'.length : Nat) : Int) := by rw [hrl, hi, Int.mul_one, Int.zero_add, Int.natCast_add]
      rw [e]
      exact .cons _ _ .nil
    · intro V₃ D nn ys vs' s₁₁ hle₃ hD hVD hlen' hP hF σ₁₁
      rw [show vs'.filter (fun _ => true) = vs' from List.filter_eq_self.mpr (by simp), hlen'] at hF
      have hklk : kl ≠ lk := ne_fresh h3_g3 (hV0 _ _ hkl)
      have hlalk : la ≠ lk := ne_fresh h3_g3 hla
      have h3c : V₃ (L' + 1) = some ocl := hle₃.at (upd_keep hrg hlc)
      have h3r : V₃ (L' + 1 + 1) = some ocr := hle₃.at (upd_keep hrg hrc)
      have h3k : V₃ lk = some (listOf lks.toArray n2) := hle₃.at (upd_keep hrg hlk)
      have nDc : D ≠ L' + 1 := Ne.symm (ne_fresh hD (upd_keep hrg hlc))
      have nDr : D ≠ L' + 1 + 1 := Ne.symm (ne_fresh hD (upd_keep hrg hrc))
      have nDk : D ≠ lk := Ne.symm (ne_fresh hD (upd_keep hrg hlk))
      repeat (walk_at "go")
      refine lsAppend (by assumption) h3k (by walk_at "ar") ?_
      intro s₁₂ n₁₂ σ₁₂
      have h4c : upd V₃ lk (listOf (lks ++ [Value.ref D]).toArray n₁₂) (L' + 1) = some ocl := upd_ne nkc.symm h3c
      have h4a : upd V₃ lk (listOf (lks ++ [Value.ref D]).toArray n₁₂) la = some (listOf (refs line).toArray n1) := upd_ne hlalk (hle₃.at (upd_keep hrg hla'))
      have h4kl : upd V₃ lk (listOf (lks ++ [Value.ref D]).toArray n₁₂) kl = some (listOf (refs nd.kids).toArray ep) := upd_ne hklk (hle₃.at (upd_keep hrg hVk))
      have hle4 : Le (h3 V₂ (L' + 1) (L' + 1 + 1) lk) (upd V₃ lk (listOf (lks ++ [Value.ref D]).toArray n₁₂)) := Le.upd h3_g3 (Le.trans h3_le (Le.trans (Le.upd hrg (Le.refl _)) hle₃))
      have hNd4 := hNd.mono (Le.trans hV0 hle4)
      repeat (walk_at "go")
      refine nodeKids G' (by assumption) hNd4 ?_
      intro s₁₃ σ₁₃
      repeat (walk_at "go")
      refine lsAdd (by assumption) h4a h4kl (Nat.le_trans (Nat.add_le_add (Nat.le_of_lt hrz) (Nat.le_of_lt hkrz)) (by decide)) ?_
      intro s₁₄ a ha σ₁₄
      repeat (walk_at "go")
      rename_i s₁₅ oc₅ hoc₅ σ₁₅
      have nac : a ≠ L' + 1 := Ne.symm (ne_fresh ha h4c)
      have nar : a ≠ L' + 1 + 1 := Ne.symm (ne_fresh ha (upd_ne nkr.symm h3r))
      have nak : a ≠ lk := Ne.symm (ne_fresh ha upd_same)
      have hle6 := Le.upd (o := oc₅) h3_g1 (Le.upd (a := a) (o := listOf (refs line ++ refs nd.kids).toArray 0) (Gone.of_le hle4 ha) hle4)
      have hW := le_h3 h3_g1 h3_g2 h3_g3 hle6
      have hrn : refs line ++ refs nd.kids = refs (line ++ nd.kids) := by simp [refs]
      rw [hrn] at hW σ₁₅
      have hdr2 : (line ++ nd.kids).drop (lks.length + 1) = line.drop (lks.length + 1) ++ nd.kids := by rw [List.drop_append_of_le_length (by walk_at "ar")]
      have hsz : (AT.pres ((line ++ nd.kids).drop (lks.length + 1))).length = (AT.pres nd.kids).length + (AT.pres (line.drop (lks.length + 1))).length := by
        rw [hdr2, AT.pres_append, List.length_append]; exact Nat.add_comm _ _
      refine ih (AT.pres ((line ++ nd.kids).drop (lks.length + 1))).length (t13 hsz hcn) (V₂ := _) (m₂ := _) (line := line ++ nd.kids) (lks := lks ++ [Value.ref D]) (la := a) (n1 := 0) (n2 := n₁₂) (ocl := oc₅) (ocr := ocr) (s₃ := _) σ₁₅ (Le.trans hV0 hW) ?_ upd_same hoc₅ ?_ hcr ?_ (by walk_at "look") ?_ (AtVs.append hAl (AtV.kids (hAl.get hnd))) ?_ ?_ ?_ ?_
      · exact h3_at nac nar nak (upd_ne nac upd_same)
      · exact upd_ne hclr.symm (upd_ne nar.symm (upd_ne nkr.symm h3r))
      · exact upd_ne nkc (upd_ne nak.symm upd_same)
      · refine (hL.mono hW).snoc (t := nd) (b := D) (idx := (List.range nd.kids.length).map (line.length + ·)) ?_ (h3_at nDc nDr nDk (upd_ne nDc (upd_keep ha (upd_ne nDk hVD)))) ?_ (links_new line nd.kids lks.length hlt) (by walk_at "ar")
        · rw [List.getElem?_append_left hlt]; exact hnd
        · rw [List.map_map]; exact hF
      · rw [List.length_append, List.length_append]; exact Nat.le_trans hlt (Nat.le_add_right _ _)
      · rw [List.length_append, List.length_singleton]; exact t15 hsz hcn hN hcnt
      · rw [List.getElem?_append_left (Nat.lt_of_le_of_lt (Nat.zero_le _) hlt)]; exact hfst
      · simp
  · refine WhlIf.no (dF (Nat.le_of_not_lt hlt)) ?_
    have hll2 : lks.length = line.length := Nat.le_antisymm hlz (Nat.le_of_not_lt hlt)
    repeat (walk_at "go")
    rename_i a₅ s₅' ga₅ σ₅'
    refine lsLen (by assumption) (upd_keep ga₅ hla') (by walk_at "ar") ?_
    intro s₆ t₆ σ₆
    refine lsMul (by assumption) (vs := [Value.none]) upd_same (by simp) (by rw [List.length_singleton, Nat.one_mul]; walk_at "ar") (by walk_at "ar") ?_
    intro s₇ ra n₇ hra σ₇
    have hrr : upd (upd V₂ a₅ (listOf #[Value.none] 0)) ra (listOf (List.replicate (refs line).length [Value.none]).flatten.toArray n₇) (L' + 1 + 1) = some ocr := upd_keep hra (upd_keep ga₅ hrc)
    repeat (walk_at "go")
    rename_i s₈ or₈ hor₈ σ₈
    have nra_c : ra ≠ L' + 1 := Ne.symm (ne_fresh hra (upd_keep ga₅ hlc))
    have nra_r : ra ≠ L' + 1 + 1 := Ne.symm (ne_fresh hra (upd_keep ga₅ hrc))
    have nra_k : ra ≠ lk := Ne.symm (ne_fresh hra (upd_keep ga₅ hlk))
    have nra_a : ra ≠ la := Ne.symm (ne_fresh hra (upd_keep ga₅ hla'))
    have nlar : la ≠ L' + 1 + 1 := ne_fresh h3_g2 hla
    obtain ⟨V₄, hV₄, hle4, h4c, h4a, h4r, h4k, h4ra⟩ : ∃ V₄, V₄ = upd (upd (upd V₂ a₅ (listOf #[Value.none] 0)) ra (listOf (List.replicate (refs line).length [Value.none]).flatten.toArray n₇)) (L' + 1 + 1) or₈ ∧ Le (h3 V₂ (L' + 1) (L' + 1 + 1) lk) V₄ ∧ V₄ (L' + 1) = some ocl ∧ V₄ la = some (listOf (refs line).toArray n1) ∧ V₄ (L' + 1 + 1) = some or₈ ∧ V₄ lk = some (listOf lks.toArray n2) ∧
        V₄ ra = some (listOf (List.replicate (refs line).length [Value.none]).flatten.toArray n₇) := by
      refine ⟨_, rfl, ?_, ?_, ?_, upd_same, ?_, ?_⟩
      · have q := Gone.of_le h3_le ga₅ (V := h3 V₂ (L' + 1) (L' + 1 + 1) lk)
        have q2 : Le (h3 V₂ (L' + 1) (L' + 1 + 1) lk) (upd V₂ a₅ (listOf #[Value.none] 0)) := Le.upd q h3_le
        exact Le.upd h3_g2 (Le.upd (Gone.of_le q2 hra) q2)
      · exact upd_ne hclr (upd_keep hra (upd_keep ga₅ hlc))
      · exact upd_ne nlar (upd_keep hra (upd_keep ga₅ hla'))
      · exact upd_ne nkr (upd_keep hra (upd_keep ga₅ hlk))
      · exact upd_ne nra_r upd_same
    rw [← hV₄] at σ₈
    have gra : Gone (h3 V₂ (L' + 1) (L' + 1 + 1) lk) ra := by
      have q := Gone.of_le h3_le ga₅ (V := h3 V₂ (L' + 1) (L' + 1 + 1) lk)
      exact Gone.of_le (Le.upd q h3_le) hra
    clear hV₄ hrr hra σ₇ σ₆ σ₅'
    have hbase := le_hide gra hle4
    repeat (walk_at "go")
    refine lsLen (by assumption) h4a (by walk_at "ar") ?_
    intro s₉ t₉ σ₉
    repeat (walk_at "go")
    rw [hrl]
    refine rgThree (by assumption) (by decide) (t20 hll) ?_
    intro s₁₀ rg tr1 tr2 tr3 hrg σ₁₀
    have hLk := hL.mono (more := []) hbase
    rw [List.append_nil] at hLk
    have nrg : rg ≠ ra := Ne.symm (ne_fresh hrg h4ra)
    refine forK (by assumption) (wkRange (V := hide (upd V₄ rg (rngOf ((line.length : Int) - 1) (-1) (-1) tr1 tr2 tr3)) ra) (n := line.length) hA' (hide_at nrg upd_same) (rgSmallDown (by walk_at "ar")) (rgLenDown _)) hide_le
      (fun i V' m' => Le (hide (upd V₄ rg (rngOf ((line.length : Int) - 1) (-1) (-1) tr1 tr2 tr3)) ra) V' ∧ m' (nm "links") = some (.ref lk) ∧ ∃ (rws : List Value) (nn : Nat), V' ra = some (listOf rws.toArray nn) ∧ rws.length = line.length ∧ ∀ q tq, line[q]? = some tq → line.length ≤ q + i → ∃ v, rws[q]? = some v ∧ TupT (hide V' ra) v tq.pt) (fun _ _ _ h => h.1)
      ⟨hide_le, by walk_at "look", _, _, upd_keep hrg h4ra, by simp [hrl], fun q tq h1 h2 => absurd (List.getElem?_eq_some_iff.mp h1).1 (Nat.not_lt.mpr h2)⟩ ?_ ?_
    · intro R₆ V₆ m₆ s₆ i v hG₆ back₆ hv hi hJ σ₆
      have G₆ := hG₆ G'
      obtain ⟨hle₆, hmk₆, rws, nr, hVr, hrw, hq⟩ := hJ
      obtain ⟨tv, rfl⟩ := hv
      obtain ⟨pl, hpl⟩ : ∃ pl : Nat, line.length = pl + i + 1 := (Nat.exists_eq_add_of_lt hi).imp fun k h => by rw [h, Nat.add_comm i k]
      have epl : (line.length : Int) - 1 + (i : Int) * -1 = (pl : Nat) := t23 hpl
      have hpl1 := lt1 hpl
      have hplk : pl < lks.length := hll2.symm ▸ hpl1
      have hplz := Nat.lt_trans hpl1 hll
      rw [epl]
      have up : ∀ {a : Addr} {o : Obj}, a ≠ ra → V₄ a = some o → V₆ a = some o := fun h1 h2 => hle₆.at (hide_at h1 (upd_keep hrg h2))
      obtain ⟨tq, htq⟩ : ∃ tq, line[pl]? = some tq := ⟨_, List.getElem?_eq_getElem hpl1⟩
      obtain ⟨vb, hvb⟩ : ∃ vb, lks[pl]? = some vb := ⟨_, List.getElem?_eq_getElem hplk⟩
      have hb6 : Le (hide V₄ ra) V₆ := Le.trans (le_hide hide_gone (Le.upd (Gone.of_le hide_le hrg) hide_le)) hle₆
      obtain ⟨tq', b, vs, nb, idx, h1, h2, h3, h4, h5, hkz⟩ := hLk pl vb hvb
      rw [htq] at h1; cases h1
      subst h2
      have hb6' : V₆ b = some (listOf vs.toArray nb) := hb6 _ _ h3
      obtain ⟨kl, ep, hNd, hkl⟩ := AtV.node (hAl.get htq)
      have hNd6 := hNd.mono (Le.trans hV0 (Le.trans hbase hb6))
      have h6c : V₆ (L' + 1) = some ocl := up nra_c.symm h4c
      have h6r : V₆ (L' + 1 + 1) = some or₈ := up nra_r.symm h4r
      have h6a : V₆ la = some (listOf (refs line).toArray n1) := up nra_a.symm h4a
      have h6k : V₆ lk = some (listOf lks.toArray n2) := up nra_k.symm h4k
      have hvl : vs.length = idx.length := by rw [h4.length, List.length_map]
      have hil := paired_len h5
      have hvz : vs.length ≤ 100 := hvl.trans hil ▸ hkz
      repeat (walk_at "go")
      refine lsItem (by assumption) h6a (by walk_at "ar") (by walk_at "ar") (v := .ref tq.addr) (by simp [refs, htq]) ?_
      refine nodeNumber G₆ (by assumption) hNd6 ?_
      intro s₁₁ t₁₁ σ₁₁
      repeat (walk_at "go")
      refine lsItem (by assumption) h6k (by walk_at "ar") (by walk_at "ar") (v := .ref b) (by simpa using hvb) ?_
      refine compKI (by assumption) (wkList hA' hb6') (by walk_at "ar") (fun _ => true) (fun vs ys _ => TupTs (hide V₆ ra) ys ((tq.kids.take vs.length).map AT.pt)) (fun _ _ _ _ _ h => h) (by simpa using TupTs.nil) (by decide) (by rfl) (by rfl) ?_ ?_ ?_
      · intro R₃ V₃ C mc s₃ v i hG₃ hle₃ hv σ₃ hmv
        exact wpAny_tests_nil ⟨rfl, _, hmv, σ₃⟩
      · intro R₃ V₃ C mc s₃ v i' vs' ys hG₃ hle₃ hv _ σ₃ hmv hInv hi
        have G₃ := hG₃ G₆
        replace hi : vs'.length = i' := hi fun _ => rfl
        obtain ⟨j, tj, rfl, hj⟩ := h4.at _ _ hv
        rw [List.getElem?_map] at hj
        obtain ⟨q, hqi, hjt⟩ := Option.map_eq_some_iff.mp hj
        subst hjt
        have h3r : V₃ (L' + 1 + 1) = some or₈ := hle₃.at h6r
        have h3ra : V₃ ra = some (listOf rws.toArray nr) := hle₃.at hVr
        obtain ⟨kid, hkid⟩ : ∃ kid, tq.kids[i']? = some kid := ⟨_, List.getElem?_eq_getElem (Nat.lt_of_lt_of_eq (List.getElem?_eq_some_iff.mp hqi).1 hil)⟩
        obtain ⟨hq1, hq2⟩ := paired_get h5 hqi hkid
        obtain ⟨rv, hrv, hTr⟩ := hq q kid hq2 (t29 hpl hq1)
        have hqlt := Nat.lt_trans (List.getElem?_eq_some_iff.mp hq2).1 hll
        repeat (walk_at "go")
        refine lsItem (by assumption) h3ra (by walk_at "ar") (by walk_at "ar") (v := rv) (by simpa using hrv) ?_
        refine ⟨_, _, Le.refl _, ?_, by assumption⟩
        rw [List.length_append, List.length_singleton, hi, take_snoc hkid, List.map_append]
        rw [hi] at hInv
        exact TupTs.snoc hTr hInv
      · intro V₇ D nn ys vs' s₁₂ hle₇ hD hVD hlen' hP hF σ₁₂
        have hys := hF.len
        rw [show vs'.filter (fun _ => true) = vs' from List.filter_eq_self.mpr (by simp), hlen', hvl, hil, List.take_length] at hF hys
        rw [List.length_map] at hys
        have hyz : ys.length ≤ 100 := hys.symm ▸ hkz
        have hplr : pl < rws.length := hrw.symm ▸ hpl1
        have hrwz : rws.length < 102 := hrw.symm ▸ hll
        repeat (walk_at "go")
        refine tpOf (by assumption) hVD (by walk_at "ar") ?_
        intro s₁₃ a₄ ha₄ σ₁₃
        have h7r : upd V₇ a₄ (tupOf ys.toArray 0) (L' + 1 + 1) = some or₈ := upd_keep ha₄ (hle₇.at h6r)
        have h7ra : upd V₇ a₄ (tupOf ys.toArray 0) ra = some (listOf rws.toArray nr) := upd_keep ha₄ (hle₇.at hVr)
        repeat (walk_at "go")
        rename_i a₅' s₁₄ ha₅' σ₁₄
        refine lsSetAt (by assumption) (upd_keep ha₅' h7ra) hplr (by walk_at "ar") ?_
        intro s₁₅ n₁₅ σ₁₅
        repeat (walk_at "go")
        have n45 : a₄ ≠ a₅' := ne_fresh ha₅' upd_same
        have n4r : a₄ ≠ ra := Ne.symm (ne_fresh ha₄ (hle₇.at hVr))
        have n5r : a₅' ≠ ra := Ne.symm (ne_fresh ha₅' h7ra)
        refine ⟨_, _, ?_, by assumption⟩
        have hl7 : Le V₆ (upd (upd V₇ a₄ (tupOf ys.toArray 0)) a₅' (tupOf #[.int tq.num t₁₁, .ref a₄] 0)) := Le.trans hle₇ (Le.upd (Gone.of_le (Le.upd ha₄ (Le.refl _)) ha₅') (Le.upd ha₄ (Le.refl _)))
        have hl8 : Le (hide V₆ ra) (upd (upd (upd V₇ a₄ (tupOf ys.toArray 0)) a₅' (tupOf #[.int tq.num t₁₁, .ref a₄] 0)) ra (listOf (rws.set pl (.ref a₅')).toArray n₁₅)) := Le.upd hide_gone (Le.trans hide_le hl7)
        have hl9 := le_hide hide_gone hl8
        refine ⟨Le.upd hide_gone (Le.trans hle₆ hl7), by walk_at "look", rws.set pl (.ref a₅'), n₁₅, upd_same, by rw [List.length_set]; exact hrw, fun q tq' h1 h2 => ?_⟩
        by_cases hqp : q = pl
        · subst hqp
          rw [htq] at h1; cases h1
          refine ⟨.ref a₅', List.getElem?_set_self (by assumption), ?_⟩
          rw [AT.pt_eta]
          unfold TupT
          refine ⟨a₅', t₁₁, a₄, 0, 0, ys, rfl, hide_at n5r (upd_ne n5r upd_same), hide_at n4r (upd_ne n4r (upd_ne n45 upd_same)), TupTs.mono hl9 _ hF⟩
        · obtain ⟨v, hv, hT'⟩ := hq q tq' h1 (t35 hpl h2 hqp)
          exact ⟨v, by rw [List.getElem?_set_ne (Ne.symm hqp)]; exact hv, TupT.mono hl9 _ hT'⟩
    · intro V₆ m₆ s₆ hJ σ₆
      obtain ⟨hle₆, hmk₆, rws, nn, hVr, hrw, hq⟩ := hJ
      obtain ⟨v, hv, hTv⟩ := hq 0 t hfst (Nat.le_of_eq (Nat.zero_add _).symm)
      have h6r : V₆ (L' + 1 + 1) = some or₈ := hle₆.at (hide_at nra_r.symm (upd_keep hrg h4r))
      repeat (walk_at "go")
      refine lsItem (by assumption) hVr (by decide) (by decide) (v := v) (by simpa using hv) ?_
      repeat (walk_at "go")
      refine k _ V₆ v ?_ (TupT.mono hide_le _ hTv) (back _ _ _ (by assumption))
      have hb6 : Le (hide V₄ ra) V₆ := Le.trans (le_hide hide_gone (Le.upd (Gone.of_le hide_le hrg) hide_le)) hle₆
      exact Le.trans hV0 (Le.trans hbase hb6)
end


/-! ## part F11 -/
/-! ## new nodes, frames -/
section
variable {prog : Program} {w : World} {A : Around} {E : Value → Shared → Prop} {R : Rest} {V : View} {L x : Addr} {m : Str → Option Value} {s : Shared} {Q : Value → Shared → Prop} {i : Int} {kl : Addr}

abbrev DE (k : Str) (h : Int) (t : Tok) (v : Value) : DictEntry := ⟨h, .str k t, v⟩
/-- the rows of a node's dict -/
def NodeEs (es : List DictEntry) (i : Int) (t : Tok) (kl : Addr) : Prop := ∃ h1 t1 h2 t2, es = [DE (nm "number") h1 t1 (.int i t), DE (nm "kids") h2 t2 (.ref kl)]
theorem NodeEs.node {es : List DictEntry} {t : Tok} {n : Nat} {dx : Addr} (h : NodeEs es i t kl) (h1 : V x = some (instObj fNode dx)) (h2 : V dx = some (dictOf es n)) : NodeAt V x i kl := by
  obtain ⟨a, b, c, d, rfl⟩ := h
  exact ⟨dx, _, n, t, h1, h2, rfl, rfl, rfl⟩
theorem le_upd_new {x dx : Addr} {o d0 d2 : Obj} (hne : x ≠ dx) : Le (upd (upd V dx d2) x o) (upd (upd (upd V dx d0) x o) dx d2) := fun a oa e => by
  by_cases ha : a = dx
  · subst ha
    rw [upd_same]
    rw [upd_at, if_neg hne.symm, upd_same] at e
    exact e
  · rw [upd_at, if_neg ha]
    by_cases hx : a = x
    · subst hx; rw [upd_same] at e ⊢; exact e
    · rw [upd_at, if_neg hx, upd_at, if_neg ha] at e ⊢; exact e
theorem le_upd_upd {V' : View} {a : Addr} {o o' : Obj} (h : Le V' (upd V a o)) : Le (upd V' a o') (upd (upd V a o) a o') := fun b ob e => by
  by_cases hb : b = a
  · subst hb; rw [upd_same] at e ⊢; exact e
  · rw [upd_at, if_neg hb] at e ⊢; exact h b ob e
theorem upd_upd {a : Addr} {o o' : Obj} : Le (upd V a o') (upd (upd V a o) a o') := fun b ob e => by
  by_cases hb : b = a
  · subst hb; rw [upd_same] at e ⊢; exact e
  · rw [upd_at, if_neg hb] at e ⊢; rw [upd_at, if_neg hb]; exact e

theorem node_new (G : Gd w R) (σ : St R V L m s) (hA : A.handled = none) (hd : A.depth < 700) {ti : Tok}
    (k : ∀ s' x dx es n, NodeEs es i ti kl → Gone V dx → Gone V x → x ≠ dx → St R (upd (upd V dx (dictOf es n)) x (instObj fNode dx)) L m s' → Q (.ref x) s') : wpAny (model prog w) A (call (.ref 76) [.int i ti, .ref kl]) Q NoE s := by
  refine inNew (fI := 68) G σ (by exact rfl) (by exact rfl) (by exact rfl) ?_
  intro x dx s₁ hdx hx hne σ₁
  refine' codeDef G σ₁ (f := 68) (binds := [(nm "self", _), (nm "number", _), (nm "kids", _)]) ?ho ?hcd ?room ?handled ?bind ?loc ?hco ?hgen ?hk ?hcell ?h
  case room => rw [depth_under_make]; omega
  case handled => exact hA
  case ho => exact rfl
  case hcd => exact rfl
  case bind => exact rfl
  case loc => exact locs rfl
  case hco => exact rfl
  case hgen => exact rfl
  case hk => exact rfl
  case hcell => decide
  intro R' A' L' s₂ G' hA' hd' hu' back σ₂
  simp only [bindsM, List.foldl_cons, List.foldl_nil] at σ₂
  repeat (walk_at "go")
  refine inSet G' (by assumption) (es := []) (n := 0) (x := x) (dx := dx) (C := 76) (by walk_at "view") (by exact upd_ne hne.symm upd_same) (by exact rfl) (by exact rfl) (by exact rfl) (by exact rfl) rfl (by simp [putL]) ?_
  intro s₃ h1 t1 n1 σ₃
  repeat (walk_at "go")
  refine inSet G' (by assumption) (x := x) (dx := dx) (C := 76) (by exact upd_ne hne upd_same) (by exact upd_same) (by exact rfl) (by exact rfl) (by exact rfl) (by exact rfl) rfl (by exact Nat.le_of_ble_eq_true rfl) ?_
  intro s₄ h2 t2 n2 σ₄
  repeat (walk_at "go")
  refine k _ x dx _ n2 ⟨h1, t1, h2, t2, rfl⟩ hdx hx hne (back _ _ _ (St.weaken σ₄ ?_))
  exact Le.trans (le_upd_new hne) upd_upd
/-- the rows of a frame's dict -/
def FrameEs (es : List DictEntry) (v1 v2 : Value) (il : Addr) : Prop := ∃ h1 t1 h2 t2 h3 t3, es = [DE (nm "first") h1 t1 v1, DE (nm "last") h2 t2 v2, DE (nm "inner") h3 t3 (.ref il)]

theorem frame_new (G : Gd w R) (σ : St R V L m s) (hA : A.handled = none) (hd : A.depth < 700)
    (k : ∀ s' x dx il es n, FrameEs es .none .none il → Gone V dx → Gone V x → Gone V il → x ≠ dx → il ≠ x → il ≠ dx → St R (upd (upd (upd V dx (dictOf es n)) x (instObj fFrame dx)) il (listOf ([] : List Value).toArray 0)) L m s' → Q (.ref x) s') : wpAny (model prog w) A (call (.ref 135) []) Q NoE s := by
  refine inNew (fI := 118) G σ (by exact rfl) (by exact rfl) (by exact rfl) ?_
  intro x dx s₁ hdx hx hne σ₁
  refine' codeDef G σ₁ (f := 118) (binds := [(nm "self", _)]) ?ho ?hcd ?room ?handled ?bind ?loc ?hco ?hgen ?hk ?hcell ?h
  case room => rw [depth_under_make]; omega
  case handled => exact hA
  case ho => exact rfl
  case hcd => exact rfl
  case bind => exact rfl
  case loc => exact locs rfl
  case hco => exact rfl
  case hgen => exact rfl
  case hk => exact rfl
  case hcell => decide
  intro R' A' L' s₂ G' hA' hd' hu' back σ₂
  simp only [bindsM, List.foldl_cons, List.foldl_nil] at σ₂
  repeat (walk_at "go")
  refine inSet G' (by assumption) (es := []) (n := 0) (x := x) (dx := dx) (C := 135) (by walk_at "view") (by exact upd_ne hne.symm upd_same) (by exact rfl) (by exact rfl) (by exact rfl) (by exact rfl) rfl (by simp [putL]) ?_
  intro s₃ h1 t1 n1 σ₃
  repeat (walk_at "go")
  refine inSet G' (by assumption) (x := x) (dx := dx) (C := 135) (by exact upd_ne hne upd_same) (by exact upd_same) (by exact rfl) (by exact rfl) (by exact rfl) (by exact rfl) rfl (by exact Nat.le_of_ble_eq_true rfl) ?_
  intro s₄ h2 t2 n2 σ₄
  repeat (walk_at "go")
  rename_i il s₅ hil σ₅
  have nix : il ≠ x := Ne.symm (ne_fresh hil (upd_ne hne (upd_ne hne upd_same)))
  have nid : il ≠ dx := Ne.symm (ne_fresh hil upd_same)
  refine inSet G' (by assumption) (x := x) (dx := dx) (C := 135) (by exact upd_ne nix.symm (upd_ne hne (upd_ne hne upd_same))) (by exact upd_ne nid.symm upd_same) (by exact rfl) (by exact rfl) (by exact rfl) (by exact rfl) rfl (by exact Nat.le_of_ble_eq_true rfl) ?_
  intro s₆ h3 t3 n3 σ₆
  repeat (walk_at "go")
  have hilV : Gone V il := by
    refine ⟨?_⟩
    have := hil.eq
    simpa only [upd_at, if_neg nid, if_neg nix] using this
  refine k _ x dx il _ n3 ⟨h1, t1, h2, t2, h3, t3, rfl⟩ hdx hx hilV hne nix nid (back _ _ _ (St.weaken σ₆ ?_))
  intro b ob e
  clear k
  by_cases h1 : b = il
  · subst h1; rw [upd_same] at e; rw [upd_at, if_neg nid, upd_same]; exact e
  · rw [upd_at, if_neg h1] at e
    by_cases h2 : b = x
    · subst h2; rw [upd_same] at e; rw [upd_at, if_neg hne, upd_at, if_neg h1, upd_at, if_neg hne, upd_at, if_neg hne, upd_same]; exact e
    · rw [upd_at, if_neg h2] at e
      by_cases h3 : b = dx
      · subst h3; rw [upd_same] at e ⊢; exact e
      · rw [upd_at, if_neg h3] at e
        simp only [upd_at, if_neg h1, if_neg h2, if_neg h3]; exact e
end


/-! ## part F12 -/
/-! ## number_end -/
section
variable {prog : Program} {w : World} {A : Around} {R : Rest} {V : View} {L : Addr} {m : Str → Option Value} {s : Shared} {Q : Value → Shared → Prop}

theorem number_end_ok (G : Gd w R) (σ : St R V L m s) (hA : A.handled = none) (hd : A.depth < 600) {xs : List UInt8} {tb tp : Tok} {p : Nat} {n : Int} {ds : List Nat} {c : Nat} {r : List Nat} (hz : xs.length ≤ 10000) (hx : (nats xs).drop p = ds ++ c :: r) (hn : IsNum n ds) (hc : ¬ (48 ≤ c ∧ c ≤ 57))
    (k : ∀ s' t', St R V L m s' → Q (.int ((p + ds.length : Nat) : Int) t') s') : wpAny (model prog w) A (call (.ref 146) [.bytes xs.toArray tb, .int (p : Nat) tp]) Q NoE s := by
  refine' callDef G σ (f := 146) (binds := [(nm "octets", _), (nm "at", _)]) ?ho ?hcd ?room ?handled ?bind ?loc ?hco ?hgen ?hk ?hcell ?h
  walk_at "enter"
  intro R' A' L' s₁ G' hA' hd' hu' back σ₁
  simp only [bindsM, List.foldl_cons, List.foldl_nil] at σ₁
  have hpl := at_le hx (by simp)
  repeat (walk_at "go")
  rename_i s₂ σ₂
  refine whl_start 0 ?_
  refine (fun (m₁ : Str → Option Value) (j : Nat) (tj : Tok) (σ₃ : St R' V L' m₁ s₂) (hmo : m₁ (nm "octets") = some (.bytes xs.toArray tb)) (hma : m₁ (nm "at") = some (.int (p : Nat) tp)) (hme : m₁ (nm "end") = some (.int ((p + j : Nat) : Int) tj)) (hj : j ≤ ds.length) => ?_)
    _ 0 tp σ₂ (by walk_at "look") (by walk_at "look") (by walk_at "look") (Nat.zero_le _)
  clear σ₂ σ₁
  obtain ⟨M, hM⟩ : ∃ M, ds.length - j = M := ⟨_, rfl⟩
  induction M generalizing s₂ m₁ j tj with
  | zero =>
    have hjd : j = ds.length := by omega
    subst hjd
    obtain ⟨g1, g2, g3⟩ := at_get (at_skip hx)
    refine whl_turn (k := 0) PassesOwn.never ?_
    repeat (walk_at "go")
    refine byLen (by assumption) (by walk_at "ar") ?_
    intro s₃ t₃ σ₄
    repeat (walk_at "go")
    refine ifB (fun _ => ?_) (fun h => absurd h (by simp; omega))
    repeat (walk_at "go")
    refine byItem (by assumption) (by walk_at "ar") g1 ?_
    intro s₄ t₄ σ₅
    rw [g2]
    repeat (walk_at "go")
    obtain ⟨d0, dr, hds⟩ : ∃ d0 dr, ds = d0 :: dr := List.exists_cons_of_ne_nil hn.ne
    have hd48 := hn.head d0 dr hds
    have hdl := hn.len
    have hdpos : 0 < ds.length := by rw [hds]; simp
    obtain ⟨a1, a2, a3⟩ := at_get (xs := xs) (p := p) (c := d0) (t := dr ++ c :: r) (by rw [hx, hds]; rfl)
    by_cases h48 : 48 ≤ c
    · refine ifB (fun _ => ?_) (fun h => absurd h (by simp; omega))
      repeat (walk_at "go")
      refine ifB (fun h => absurd h (by simp; omega)) (fun _ => ?_)
      refine WhlIf.no rfl ?_
      repeat (walk_at "go")
      refine ifB (fun h => absurd h (by simp <;> omega)) (fun _ => ?_)
      repeat (walk_at "go")
      refine byItem (by assumption) (by walk_at "ar") a1 ?_
      intro s₆ t₆ σ₆
      rw [a2]
      repeat (walk_at "go")
      refine ifB (fun h => absurd h (by simp; omega)) (fun _ => ?_)
      repeat (walk_at "go")
      refine ifB (fun h => absurd h (by simp; omega)) (fun _ => ?_)
      repeat (walk_at "go")
      refine ifB (fun h => absurd h (by simp)) (fun _ => ?_)
      repeat (walk_at "go")
      exact k _ _ (back _ _ _ (by assumption))
    · refine ifB (fun h => absurd h (by simp; omega)) (fun _ => ?_)
      refine ifB (fun h => absurd h (by simp)) (fun _ => ?_)
      refine WhlIf.no rfl ?_
      repeat (walk_at "go")
      refine ifB (fun h => absurd h (by simp <;> omega)) (fun _ => ?_)
      repeat (walk_at "go")
      refine byItem (by assumption) (by walk_at "ar") a1 ?_
      intro s₆ t₆ σ₆
      rw [a2]
      repeat (walk_at "go")
      refine ifB (fun h => absurd h (by simp; omega)) (fun _ => ?_)
      repeat (walk_at "go")
      refine ifB (fun h => absurd h (by simp; omega)) (fun _ => ?_)
      repeat (walk_at "go")
      refine ifB (fun h => absurd h (by simp)) (fun _ => ?_)
      repeat (walk_at "go")
      exact k _ _ (back _ _ _ (by assumption))
  | succ M ih =>
    have hjd : j < ds.length := by omega
    have hdj := hn.all _ (List.getElem_mem hjd)
    obtain ⟨g1, g2, g3⟩ := at_get (xs := xs) (p := p + j) (c := ds[j]) (t := ds.drop (j + 1) ++ c :: r) (by
      rw [← List.drop_drop, hx, List.drop_append_of_le_length (by walk_at "ar"), List.drop_eq_getElem_cons hjd]; rfl)
    refine whl_turn (k := 0) PassesOwn.never ?_
    repeat (walk_at "go")
    refine byLen (by assumption) (by walk_at "ar") ?_
    intro s₃ t₃ σ₄
    repeat (walk_at "go")
    refine ifB (fun _ => ?_) (fun h => absurd h (by simp; omega))
    repeat (walk_at "go")
    refine byItem (by assumption) (by walk_at "ar") g1 ?_
    intro s₄ t₄ σ₅
    rw [g2]
    repeat (walk_at "go")
    refine ifB (fun _ => ?_) (fun h => absurd h (by simp; omega))
    repeat (walk_at "go")
    refine ifB (fun _ => ?_) (fun h => absurd h (by simp; omega))
    repeat (walk_at "go")
    refine WhlIf.yes rfl ?_
    repeat (walk_at "go")
    rename_i s₇ t₇ σ₇ s₈ σ₈
    have e : ((p + j : Nat) : Int) + 1 = ((p + (j + 1) : Nat) : Int) := by omega
    rw [e] at σ₈
    exact ih s₈ _ (j + 1) _ σ₈ (by walk_at "look") (by walk_at "look") (by walk_at "look") (by walk_at "ar") (by walk_at "ar")
end


/-! ## part F13 -/
/-! ## frames -/
def FrameAt (V : View) (f df : Addr) (v1 v2 : Value) (il : Addr) : Prop := V f = some (instObj fFrame df) ∧ ∃ es n, V df = some (dictOf es n) ∧ FrameEs es v1 v2 il
/-- what is new is the node -/
structure NewNode (V V' : View) (x dx kl : Addr) (n : Int) : Prop where
  gx : Gone V x
  gd : Gone V dx
  gk : Gone V kl
  xd : x ≠ dx
  kx : kl ≠ x
  kd : kl ≠ dx
  hx : V' x = some (instObj fNode dx)
  hd : ∃ es nn t, V' dx = some (dictOf es nn) ∧ NodeEs es n t kl
  hk : V' kl = some (listOf ([] : List Value).toArray 0)
section
variable {prog : Program} {w : World} {A : Around} {E : Value → Shared → Prop} {R : Rest} {V : View} {L f df il : Addr} {m : Str → Option Value} {s : Shared} {Q : Value → Shared → Prop} {v1 v2 : Value}
theorem FrameAt.keep {V' : View} (h : FrameAt V f df v1 v2 il) (h1 : ∀ o, V f = some o → V' f = some o) (h2 : ∀ o, V df = some o → V' df = some o) : FrameAt V' f df v1 v2 il := by
  obtain ⟨a, es, n, b, c⟩ := h
  exact ⟨h1 _ a, es, n, h2 _ b, c⟩
theorem FrameAt.ne (h : FrameAt V f df v1 v2 il) : f ≠ df := by
  obtain ⟨a, es, n, b, c⟩ := h
  rintro rfl; rw [a] at b; cases b
theorem FrameAt.known (h : FrameAt V f df v1 v2 il) : ∃ o, V df = some o := by
  obtain ⟨a, es, n, b, c⟩ := h
  exact ⟨_, b⟩
theorem list_ne_dict {V : View} {a d : Addr} {its : Array Value} {n n2 : Nat} {es : List DictEntry} (h : V a = some (listOf its n)) (h2 : V d = some (dictOf es n2)) : a ≠ d := by
  rintro rfl; rw [h] at h2; have q := congrArg Obj.data (Option.some.inj h2); cases q
theorem list_ne_inst {V : View} {a d C dx : Addr} {its : Array Value} {n : Nat} (h : V a = some (listOf its n)) (h2 : V d = some (instObj C dx)) : a ≠ d := by
  rintro rfl; rw [h] at h2; have q := congrArg Obj.data (Option.some.inj h2); cases q
theorem FrameAt.list_ne {a : Addr} {its : Array Value} {n : Nat} (h : FrameAt V f df v1 v2 il) (hl : V a = some (listOf its n)) : a ≠ f ∧ a ≠ df := by
  obtain ⟨h1, es, n, h2, c⟩ := h
  exact ⟨list_ne_inst hl h1, list_ne_dict hl h2⟩
theorem fr_inner {expr : Bool} (G : Gd w R) (σ : St R V L m s) (h : FrameAt V f df v1 v2 il) (k : ∀ s', St R V L m s' → Q (.ref il) s') : wpAny (model prog w) A (getAttr (.ref f) (nm "inner") expr) Q E s := by
  obtain ⟨hf, es, n, hdf, h1, t1, h2, t2, h3, t3, rfl⟩ := h
  exact inGet G σ hf hdf (by exact rfl) (by exact rfl) (by exact rfl) (by exact rfl) rfl rfl (fun s' τ => k s' τ)
theorem fr_first {expr : Bool} (G : Gd w R) (σ : St R V L m s) (h : FrameAt V f df v1 v2 il) (hh : handedIn v1 = true) (k : ∀ s', St R V L m s' → Q v1 s') : wpAny (model prog w) A (getAttr (.ref f) (nm "first") expr) Q E s := by
  obtain ⟨hf, es, n, hdf, h1, t1, h2, t2, h3, t3, rfl⟩ := h
  exact inGet G σ hf hdf (by exact rfl) (by exact rfl) (by exact rfl) (by exact rfl) rfl hh (fun s' τ => k s' τ)
theorem fr_last {expr : Bool} (G : Gd w R) (σ : St R V L m s) (h : FrameAt V f df v1 v2 il) (hh : handedIn v2 = true) (k : ∀ s', St R V L m s' → Q v2 s') : wpAny (model prog w) A (getAttr (.ref f) (nm "last") expr) Q E s := by
  obtain ⟨hf, es, n, hdf, h1, t1, h2, t2, h3, t3, rfl⟩ := h
  exact inGet G σ hf hdf (by exact rfl) (by exact rfl) (by exact rfl) (by exact rfl) rfl hh (fun s' τ => k s' τ)
theorem fr_setFirst {Q : Unit → Shared → Prop} {v : Value} (G : Gd w R) (σ : St R V L m s) (h : FrameAt V f df v1 v2 il) (k : ∀ s' o, FrameAt (upd V df o) f df v v2 il → St R (upd V df o) L m s' → Q () s') : wpAny (model prog w) A (setAttr (.ref f) (nm "first") v) Q E s := by
  have hne := h.ne
  obtain ⟨hf, es, n, hdf, h1, t1, h2, t2, h3, t3, rfl⟩ := h
  exact inSet G σ hf hdf (by exact rfl) (by exact rfl) (by exact rfl) (by exact rfl) rfl (by exact Nat.le_of_ble_eq_true rfl) (fun s' hs t n' τ => k s' _ ⟨upd_ne hne hf, _, n', upd_same, h1, t1, h2, t2, h3, t3, rfl⟩ τ)
theorem fr_setLast {Q : Unit → Shared → Prop} {v : Value} (G : Gd w R) (σ : St R V L m s) (h : FrameAt V f df v1 v2 il) (k : ∀ s' o, FrameAt (upd V df o) f df v1 v il → St R (upd V df o) L m s' → Q () s') : wpAny (model prog w) A (setAttr (.ref f) (nm "last") v) Q E s := by
  have hne := h.ne
  obtain ⟨hf, es, n, hdf, h1, t1, h2, t2, h3, t3, rfl⟩ := h
  exact inSet G σ hf hdf (by exact rfl) (by exact rfl) (by exact rfl) (by exact rfl) rfl (by exact Nat.le_of_ble_eq_true rfl) (fun s' hs t n' τ => k s' _ ⟨upd_ne hne hf, _, n', upd_same, h1, t1, h2, t2, h3, t3, rfl⟩ τ)
theorem fr_put {pl : Sem Bool} {Q : Value × List Value → Shared → Prop} (G : Gd w R) (σ : St R V L m s) (h : FrameAt V f df v1 v2 il) (k : Q (.ref 125, [.ref f]) s) : wpAny (model prog w) A (getMethod (.ref f) (nm "put_number") pl) Q E s := by
  obtain ⟨hf, es, n, hdf, h1, t1, h2, t2, h3, t3, rfl⟩ := h
  exact inMeth G σ hf hdf (by exact rfl) (by exact rfl) (by exact rfl) rfl k
theorem fr_closed {pl : Sem Bool} {Q : Value × List Value → Shared → Prop} (G : Gd w R) (σ : St R V L m s) (h : FrameAt V f df v1 v2 il) (k : Q (.ref 132, [.ref f]) s) : wpAny (model prog w) A (getMethod (.ref f) (nm "closed") pl) Q E s := by
  obtain ⟨hf, es, n, hdf, h1, t1, h2, t2, h3, t3, rfl⟩ := h
  exact inMeth G σ hf hdf (by exact rfl) (by exact rfl) (by exact rfl) rfl k

theorem newNode_of {x dx kl : Addr} {n : Int} {es : List DictEntry} {nn : Nat} {t : Tok} {ep : Nat} (hk : Gone V kl) (hd : Gone (upd V kl (listOf ([] : List Value).toArray ep)) dx) (hx : Gone (upd V kl (listOf ([] : List Value).toArray ep)) x) (hne : x ≠ dx) (hE : NodeEs es n t kl) {V' : View}
    (h1 : V' x = some (instObj fNode dx)) (h2 : V' dx = some (dictOf es nn)) (h3 : V' kl = some (listOf ([] : List Value).toArray 0)) : NewNode V V' x dx kl n :=
  ⟨Gone.of_le (Le.upd hk (Le.refl _)) hx, Gone.of_le (Le.upd hk (Le.refl _)) hd, hk, hne, ne_fresh hx upd_same, ne_fresh hd upd_same, h1, ⟨es, nn, t, h2, hE⟩, h3⟩

theorem put_first (G : Gd w R) (σ : St R V L m s) (hA : A.handled = none) (hd : A.depth < 600) {n : Int} {t : Tok} (hF : FrameAt V f df .none .none il)
    (k : ∀ s' V' x dx kl, (∀ a o, V a = some o → a ≠ df → V' a = some o) → NewNode V V' x dx kl n → FrameAt V' f df (.ref x) (.ref x) il → St R V' L m s' → Q .none s') : wpAny (model prog w) A (call (.ref 125) [.ref f, .int n t]) Q NoE s := by
  refine' callDef G σ (f := 125) (binds := [(nm "self", _), (nm "number", _)]) ?ho ?hcd ?room ?handled ?bind ?loc ?hco ?hgen ?hk ?hcell ?h
  walk_at "enter"
  intro R' A' L' s₁ G' hA' hd' hu' back σ₁
  simp only [bindsM, List.foldl_cons, List.foldl_nil] at σ₁
  repeat (walk_at "go")
  rename_i kl s₂ hkl σ₂
  refine node_new G' (by assumption) hA' (by walk_at "dp") ?_
  intro s₃ x dx es nn hE hdx hx hne σ₃
  have hF3 : FrameAt (upd (upd (upd V kl (listOf ([] : List Value).toArray 0)) dx (dictOf es nn)) x (instObj fNode dx)) f df .none .none il := by
    have hup : Le V (upd (upd (upd V kl (listOf ([] : List Value).toArray 0)) dx (dictOf es nn)) x (instObj fNode dx)) := fun a o e => upd_ne (ne_fresh hx (upd_keep hkl e)) (upd_keep hdx (upd_keep hkl e))
    exact hF.keep (hup _) (hup _)
  obtain ⟨odf, hodf⟩ := hF.known
  have nxf : x ≠ df := Ne.symm (ne_fresh hx (upd_keep hkl hodf))
  have ndf : dx ≠ df := Ne.symm (ne_fresh hdx (upd_keep hkl hodf))
  have nkf : kl ≠ df := Ne.symm (ne_fresh hkl hodf)
  have nkx : kl ≠ x := ne_fresh hx upd_same
  have nkd : kl ≠ dx := ne_fresh hdx upd_same
  repeat (walk_at "go")
  refine fr_first G' (by assumption) hF3 rfl ?_
  intro s₄ σ₄
  repeat (walk_at "go")
  refine ifB (fun _ => ?_) (fun h => absurd h (by decide))
  repeat (walk_at "go")
  refine fr_setFirst G' (by assumption) hF3 ?_
  intro s₅ o₅ hF5 σ₅
  repeat (walk_at "go")
  refine fr_setLast G' (by assumption) hF5 ?_
  intro s₆ o₆ hF6 σ₆
  repeat (walk_at "go")
  refine k _ _ x dx kl (fun a o e ha => ?_) (newNode_of (nn := nn) hkl hdx hx hne hE ?_ ?_ ?_) hF6 (back _ _ _ σ₆)
  · exact upd_ne ha (upd_ne ha (upd_ne (ne_fresh hx (upd_keep hkl e)) (upd_keep hdx (upd_keep hkl e))))
  · exact upd_ne nxf (upd_ne nxf upd_same)
  · exact upd_ne ndf (upd_ne ndf (upd_ne hne.symm upd_same))
  · exact upd_ne nkf (upd_ne nkf (upd_ne nkx (upd_ne nkd upd_same)))

theorem put_next (G : Gd w R) (σ : St R V L m s) (hA : A.handled = none) (hd : A.depth < 600) {n nl : Int} {t : Tok} {a last lkl : Addr} {vs : List Value} {e : Nat} (hF : FrameAt V f df (.ref a) (.ref last) il) (hN : NodeAt V last nl lkl) (hK : V lkl = some (listOf vs.toArray e)) (hz : vs.length ≤ 10000)
    (k : ∀ s' V' x dx kl e', (∀ a o, V a = some o → a ≠ df → a ≠ lkl → V' a = some o) → V' lkl = some (listOf (vs ++ [Value.ref x]).toArray e') → NewNode V V' x dx kl n → FrameAt V' f df (.ref a) (.ref x) il → St R V' L m s' → Q .none s') : wpAny (model prog w) A (call (.ref 125) [.ref f, .int n t]) Q NoE s := by
  refine' callDef G σ (f := 125) (binds := [(nm "self", _), (nm "number", _)]) ?ho ?hcd ?room ?handled ?bind ?loc ?hco ?hgen ?hk ?hcell ?h
  walk_at "enter"
  intro R' A' L' s₁ G' hA' hd' hu' back σ₁
  simp only [bindsM, List.foldl_cons, List.foldl_nil] at σ₁
  repeat (walk_at "go")
  rename_i kl s₂ hkl σ₂
  refine node_new G' (by assumption) hA' (by walk_at "dp") ?_
  intro s₃ x dx es nn hE hdx hx hne σ₃
  have hup : Le V (upd (upd (upd V kl (listOf ([] : List Value).toArray 0)) dx (dictOf es nn)) x (instObj fNode dx)) := fun a o e => upd_ne (ne_fresh hx (upd_keep hkl e)) (upd_keep hdx (upd_keep hkl e))
  have hF3 := hF.keep (hup _) (hup _)
  obtain ⟨odf, hodf⟩ := hF.known
  have nxf : x ≠ df := Ne.symm (ne_fresh hx (upd_keep hkl hodf))
  have ndf : dx ≠ df := Ne.symm (ne_fresh hdx (upd_keep hkl hodf))
  have nkf : kl ≠ df := Ne.symm (ne_fresh hkl hodf)
  have nkx : kl ≠ x := ne_fresh hx upd_same
  have nkd : kl ≠ dx := ne_fresh hdx upd_same
  have nlx : x ≠ lkl := Ne.symm (ne_fresh hx (upd_keep hkl hK))
  have nld : dx ≠ lkl := Ne.symm (ne_fresh hdx (upd_keep hkl hK))
  have nlk : kl ≠ lkl := Ne.symm (ne_fresh hkl hK)
  obtain ⟨nlf, nldf⟩ := hF.list_ne hK
  repeat (walk_at "go")
  refine fr_first G' (by assumption) hF3 rfl ?_
  intro s₄ σ₄
  repeat (walk_at "go")
  refine ifB (fun h => Bool.noConfusion (show false = true from h)) (fun _ => ?_)
  repeat (walk_at "go")
  refine fr_last G' (by assumption) hF3 rfl ?_
  intro s₅ σ₅
  repeat (walk_at "go")
  refine nodeKids G' (by assumption) (hN.mono hup) ?_
  intro s₆ σ₆
  repeat (walk_at "go")
  refine lsAppend (by assumption) (hup _ _ hK) (by omega) ?_
  intro s₇ n₇ σ₇
  have hF7 := hF3.keep (V' := upd (upd (upd (upd V kl (listOf ([] : List Value).toArray 0)) dx (dictOf es nn)) x (instObj fNode dx)) lkl (listOf (vs ++ [Value.ref x]).toArray n₇)) (fun o h => upd_ne nlf.symm h) (fun o h => upd_ne nldf.symm h)
  repeat (walk_at "go")
  refine fr_setLast G' (by assumption) hF7 ?_
  intro s₈ o₈ hF8 σ₈
  repeat (walk_at "go")
  refine k _ _ x dx kl n₇ (fun a o e ha hl => ?_) ?_ (newNode_of (nn := nn) hkl hdx hx hne hE ?_ ?_ ?_) hF8 (back _ _ _ σ₈)
  · exact upd_ne ha (upd_ne hl (hup _ _ e))
  · exact upd_ne nldf upd_same
  · exact upd_ne nxf (upd_ne nlx upd_same)
  · exact upd_ne ndf (upd_ne nld (upd_ne hne.symm upd_same))
  · exact upd_ne nkf (upd_ne nlk (upd_ne nkx (upd_ne nkd upd_same)))

theorem closed_ok (G : Gd w R) (σ : St R V L m s) (hA : A.handled = none) (hd : A.depth < 600) (hu : A.units < 6000) {nl : Int} {t : Tok} {p : Int} {a last lkl : Addr} {vs ws : List Value} {e e2 : Nat} (hF : FrameAt V f df (.ref a) (.ref last) il) (hN : NodeAt V last nl lkl) (hK : V lkl = some (listOf vs.toArray e)) (hI : V il = some (listOf ws.toArray e2)) (hz : vs.length + ws.length ≤ 10000) (h1 : ws.length ≠ 1)
    (k : ∀ s' e', St R (upd V lkl (listOf (vs ++ ws).toArray e')) L m s' → Q (.ref a) s') : wpAny (model prog w) A (call (.ref 132) [.ref f, .int p t]) Q NoE s := by
  refine' callDef G σ (f := 132) (binds := [(nm "self", _), (nm "at", _)]) ?ho ?hcd ?room ?handled ?bind ?loc ?hco ?hgen ?hk ?hcell ?h
  walk_at "enter"
  intro R' A' L' s₁ G' hA' hd' hu' back σ₁
  simp only [bindsM, List.foldl_cons, List.foldl_nil] at σ₁
  repeat (walk_at "go")
  refine fr_inner G' (by assumption) hF ?_
  intro s₂ σ₂
  repeat (walk_at "go")
  refine lsLen (by assumption) hI (by omega) ?_
  intro s₃ t₃ σ₃
  repeat (walk_at "go")
  refine ifB (fun h => absurd h (by simp; omega)) (fun _ => ?_)
  repeat (walk_at "go")
  refine fr_first G' (by assumption) hF rfl ?_
  intro s₄ σ₄
  repeat (walk_at "go")
  refine ifB (fun h => Bool.noConfusion (show false = true from h)) (fun _ => ?_)
  refine ifB (fun h => absurd h (by simp)) (fun _ => ?_)
  repeat (walk_at "go")
  refine ifB (fun h => absurd h (by simp)) (fun _ => ?_)
  repeat (walk_at "go")
  refine fr_first G' (by assumption) hF rfl ?_
  intro s₅ σ₅
  repeat (walk_at "go")
  refine ifB (fun h => Bool.noConfusion (show false = true from h)) (fun _ => ?_)
  repeat (walk_at "go")
  refine fr_last G' (by assumption) hF rfl ?_
  intro s₆ σ₆
  repeat (walk_at "go")
  refine nodeKids G' (by assumption) hN ?_
  intro s₇ σ₇
  repeat (walk_at "go")
  refine fr_inner G' (by assumption) hF ?_
  intro s₈ σ₈
  repeat (walk_at "go")
  refine lsExtend (by assumption) hK hI (by omega) ?_
  intro s₉ n₉ σ₉
  have nlf := (hF.list_ne hK).1
  have nld := (hF.list_ne hK).2
  have hF9 := hF.keep (V' := upd V lkl (listOf (vs ++ ws).toArray n₉)) (fun o h => upd_ne nlf.symm h) (fun o h => upd_ne nld.symm h)
  repeat (walk_at "go")
  refine fr_first G' (by assumption) hF9 rfl ?_
  intro s₁₀ σ₁₀
  walk_at "ret"
  exact k _ _ (back _ _ _ σ₁₀)
end


/-! ## part F14 -/
/-! ## read_member -/
section
variable {prog : Program} {w : World} {A : Around} {E : Value → Shared → Prop} {R : Rest} {V : View} {L f df il : Addr} {m : Str → Option Value} {s : Shared} {Q : Value → Shared → Prop} {v1 v2 : Value}
theorem FrameAt.mono {V' : View} (h : FrameAt V f df v1 v2 il) (hle : Le V V') : FrameAt V' f df v1 v2 il := h.keep (hle _) (hle _)
theorem NewNode.of_le {V V2 V' : View} {x dx kl : Addr} {n : Int} (h : NewNode V2 V' x dx kl n) (hle : Le V V2) : NewNode V V' x dx kl n :=
  ⟨Gone.of_le hle h.gx, Gone.of_le hle h.gd, Gone.of_le hle h.gk, h.xd, h.kx, h.kd, h.hx, h.hd, h.hk⟩
theorem bySlice2 {xs : List UInt8} {value slice : PySem.Expr} {a : Addr} {i j : Nat} {lo up : Int} {t ti tj : Tok} (σ : St R V L m s) (ha : V a = some (slOf (.int lo ti) (.int up tj) .none)) (hlo : lo = (i : Nat)) (hup : up = (j : Nat)) (hz : xs.length ≤ 100000) (hij : i ≤ j)
    (h : ∀ s' t', St R V L m s' → Q (.bytes ((xs.drop i).take (j - i)).toArray t') s') {ops : List Value}
    (hs : subscripted slice false (.bytes xs.toArray t) (.ref a) = operate ops (getItem (.bytes xs.toArray t) (.ref a)) := by with_unfolding_all rfl) :
    wpAny (model prog w) A (subscriptTail value slice (.bytes xs.toArray t) (.ref a)) Q E s := by
  subst hlo hup
  exact bySlice σ ha hz hij h hs

theorem member_first (G : Gd w R) (σ : St R V L m s) (hA : A.handled = none) (hd : A.depth < 500) (hu : A.units < 5000) {xs : List UInt8} {tb tp : Tok} {p : Nat} {n : Int} {ds : List Nat} {c : Nat} {r : List Nat} {e : Nat} (hz : xs.length ≤ 10000) (hx : (nats xs).drop p = ds ++ c :: r) (hn : IsNum n ds) (hc : ¬ (48 ≤ c ∧ c ≤ 57)) (hc2 : c ≠ 40)
    (hF : FrameAt V f df .none .none il) (hI : V il = some (listOf ([] : List Value).toArray e))
    (k : ∀ s' t' V' x dx kl, (∀ a o, V a = some o → a ≠ df → V' a = some o) → NewNode V V' x dx kl n → FrameAt V' f df (.ref x) (.ref x) il → St R V' L m s' → Q (.int ((p + ds.length : Nat) : Int) t') s') : wpAny (model prog w) A (call (.ref 160) [.bytes xs.toArray tb, .int (p : Nat) tp, .ref f]) Q NoE s := by
  refine' callDef G σ (f := 160) (binds := [(nm "octets", _), (nm "at", _), (nm "frame", _)]) ?ho ?hcd ?room ?handled ?bind ?loc ?hco ?hgen ?hk ?hcell ?h
  walk_at "enter"
  intro R' A' L' s₁ G' hA' hd' hu' back σ₁
  simp only [bindsM, List.foldl_cons, List.foldl_nil] at σ₁
  repeat (walk_at "go")
  refine fr_inner G' (by assumption) hF ?_
  intro s₂ σ₂
  repeat (walk_at "go")
  rename_i a₃ s₃ ga₃ σ₃
  refine lsNeNil (by assumption) (by walk_at "view") (by walk_at "view") (by omega) ?_
  repeat (walk_at "go")
  refine ifB (fun h => Bool.noConfusion (show false = true from h)) (fun _ => ?_)
  repeat (walk_at "go")
  refine fr_first G' (by assumption) (hF.mono (by walk_at "le")) rfl ?_
  intro s₄ σ₄
  repeat (walk_at "go")
  refine ifB (fun h => Bool.noConfusion (show false = true from h)) (fun _ => ?_)
  repeat (walk_at "go")
  refine number_end_ok G' (by assumption) hA' (by walk_at "dp") hz hx hn hc ?_
  intro s₅ t₅ σ₅
  repeat (walk_at "go")
  refine fr_put G' (by assumption) (hF.mono (by walk_at "le")) ?_
  repeat (walk_at "go")
  refine bySlice2 (by assumption) (by walk_at "view") rfl rfl (by omega) (by omega) ?_
  intro s₆ t₆ σ₆
  have ecut : p + ds.length - p = ds.length := by omega
  have hcut := at_cut hx
  rw [ecut]
  repeat (walk_at "go")
  refine byInt (by assumption) (by show NumText.AllDigits (nats _); rw [hcut]; exact hn.all) (fun h => hn.ne (by rw [← hcut, h]; rfl)) (by rw [← nats_len, hcut]; exact Nat.le_trans hn.len (by decide)) ?_
  intro s₇ t₇ σ₇
  have hval : ((NumText.digitsVal (((xs.drop p).take ds.length).map (·.toNat)) : Nat) : Int) = n := by
    have := hn.val
    rw [← hcut] at this
    exact this
  rw [hval]
  repeat (walk_at "go")
  refine put_first G' (by assumption) hA' (by walk_at "dp") (hF.mono (by walk_at "le")) ?_
  intro s₈ V₈ x dx kl hk₈ hN₈ hF₈ σ₈
  repeat (walk_at "go")
  refine bySlice2 (i := p + ds.length) (j := p + ds.length + 1) (by assumption) (by walk_at "view") rfl (by omega) (by omega) (by omega) ?_
  intro s₉ t₉ σ₉
  repeat (walk_at "go")
  refine byEq ?_
  repeat (walk_at "go")
  rw [nats_beq, cut_one (at_skip hx)]
  refine ifB (fun h => absurd h (by simp [nats, hc2])) (fun _ => ?_)
  repeat (walk_at "go")
  refine k _ _ V₈ x dx kl (fun a o e ha => hk₈ a o ?_ ha) (hN₈.of_le ?_) hF₈ (St.weaken (back _ _ _ (by assumption)) ?_)
  · exact Le.at (by walk_at "le") e
  · walk_at "le"
  · walk_at "le"

theorem member_next (G : Gd w R) (σ : St R V L m s) (hA : A.handled = none) (hd : A.depth < 500) (hu : A.units < 5000) {xs : List UInt8} {tb tp : Tok} {p : Nat} {n nl : Int} {a last lkl : Addr} {vs : List Value} {e2 : Nat} {ds : List Nat} {c : Nat} {r : List Nat} {e : Nat} (hz : xs.length ≤ 10000) (hx : (nats xs).drop p = 32 :: (ds ++ c :: r)) (hn : IsNum n ds) (hc : ¬ (48 ≤ c ∧ c ≤ 57)) (hc2 : c ≠ 40)
    (hF : FrameAt V f df (.ref a) (.ref last) il) (hI : V il = some (listOf ([] : List Value).toArray e)) (hN : NodeAt V last nl lkl) (hK : V lkl = some (listOf vs.toArray e2)) (hvz : vs.length ≤ 10000)
    (k : ∀ s' t' V' x dx kl e', (∀ a o, V a = some o → a ≠ df → a ≠ lkl → V' a = some o) → V' lkl = some (listOf (vs ++ [Value.ref x]).toArray e') → NewNode V V' x dx kl n → FrameAt V' f df (.ref a) (.ref x) il → St R V' L m s' → Q (.int ((p + 1 + ds.length : Nat) : Int) t') s') : wpAny (model prog w) A (call (.ref 160) [.bytes xs.toArray tb, .int (p : Nat) tp, .ref f]) Q NoE s := by
  refine' callDef G σ (f := 160) (binds := [(nm "octets", _), (nm "at", _), (nm "frame", _)]) ?ho ?hcd ?room ?handled ?bind ?loc ?hco ?hgen ?hk ?hcell ?h
  walk_at "enter"
  intro R' A' L' s₁ G' hA' hd' hu' back σ₁
  simp only [bindsM, List.foldl_cons, List.foldl_nil] at σ₁
  obtain ⟨b1, b2, b3⟩ := at_get hx
  repeat (walk_at "go")
  refine fr_inner G' (by assumption) hF ?_
  intro s₂ σ₂
  repeat (walk_at "go")
  rename_i a₃ s₃ ga₃ σ₃
  refine lsNeNil (by assumption) (by walk_at "view") (by walk_at "view") (by omega) ?_
  repeat (walk_at "go")
  refine ifB (fun h => Bool.noConfusion (show false = true from h)) (fun _ => ?_)
  repeat (walk_at "go")
  refine fr_first G' (by assumption) (hF.mono (by walk_at "le")) rfl ?_
  intro s₄ σ₄
  repeat (walk_at "go")
  refine ifB (fun _ => ?_) (fun h => Bool.noConfusion (show true = false from h))
  repeat (walk_at "go")
  refine byItem (by assumption) (by omega) b1 ?_
  intro s₅ t₅ σ₅
  rw [b2]
  repeat (walk_at "go")
  refine ifB (fun h => absurd h (by simp)) (fun _ => ?_)
  repeat (walk_at "go")
  refine bySlice2 (i := p + 1) (j := p + 1 + 1) (by assumption) (by walk_at "view") (by omega) (by omega) (by omega) (by omega) ?_
  intro s₆ t₆ σ₆
  obtain ⟨d0, dr, hds⟩ : ∃ d0 dr, ds = d0 :: dr := List.exists_cons_of_ne_nil hn.ne
  have hd0 := hn.all d0 (by rw [hds]; simp)
  have hd0' : d0 ≠ 40 := by omega
  repeat (walk_at "go")
  refine byEq ?_
  repeat (walk_at "go")
  rw [nats_beq, cut_one (c := d0) (t := dr ++ c :: r) (by rw [b3, hds]; rfl)]
  refine ifB (fun h => absurd h (by simp [nats, hd0'])) (fun _ => ?_)
  repeat (walk_at "go")
  have ep : (p : Int) + 1 = ((p + 1 : Nat) : Int) := by omega
  rw [ep]
  refine number_end_ok G' (by assumption) hA' (by walk_at "dp") hz b3 hn hc ?_
  intro s₇ t₇ σ₇
  repeat (walk_at "go")
  refine fr_put G' (by assumption) (hF.mono (by walk_at "le")) ?_
  repeat (walk_at "go")
  refine bySlice2 (i := p + 1) (j := p + 1 + ds.length) (by assumption) (by walk_at "view") (by omega) rfl (by omega) (by omega) ?_
  intro s₈ t₈ σ₈
  have ecut : p + 1 + ds.length - (p + 1) = ds.length := by omega
  have hcut := at_cut b3
  rw [ecut]
  repeat (walk_at "go")
  refine byInt (by assumption) (by show NumText.AllDigits (nats _); rw [hcut]; exact hn.all) (fun h => hn.ne (by rw [← hcut, h]; rfl)) (by rw [← nats_len, hcut]; exact Nat.le_trans hn.len (by decide)) ?_
  intro s₉ t₉ σ₉
  have hval : ((NumText.digitsVal (((xs.drop (p + 1)).take ds.length).map (·.toNat)) : Nat) : Int) = n := by
    have := hn.val
    rw [← hcut] at this
    exact this
  rw [hval]
  repeat (walk_at "go")
  refine put_next G' (by assumption) hA' (by walk_at "dp") (hF.mono (by walk_at "le")) (hN.mono (by walk_at "le")) (Le.at (by walk_at "le") hK) hvz ?_
  intro s₁₀ V₈ x dx kl e₈ hk₈ hl₈ hN₈ hF₈ σ₁₀
  repeat (walk_at "go")
  refine bySlice2 (i := p + 1 + ds.length) (j := p + 1 + ds.length + 1) (by assumption) (by walk_at "view") rfl (by omega) (by omega) (by omega) ?_
  intro s₁₁ t₁₁ σ₁₁
  repeat (walk_at "go")
  refine byEq ?_
  repeat (walk_at "go")
  rw [nats_beq, cut_one (at_skip b3)]
  refine ifB (fun h => absurd h (by simp [nats, hc2])) (fun _ => ?_)
  repeat (walk_at "go")
  refine k _ _ V₈ x dx kl e₈ (fun a o e ha hl => hk₈ a o ?_ ha hl) hl₈ (hN₈.of_le ?_) hF₈ (St.weaken (back _ _ _ (by assumption)) ?_)
  · exact Le.at (by walk_at "le") e
  · walk_at "le"
  · walk_at "le"

theorem member_blank (G : Gd w R) (σ : St R V L m s) (hA : A.handled = none) (hd : A.depth < 500) (hu : A.units < 5000) {xs : List UInt8} {tb tp : Tok} {p : Nat} {a : Addr} {r : List Nat} {e : Nat} (hz : xs.length ≤ 10000) (hx : (nats xs).drop p = 32 :: 40 :: r)
    (hF : FrameAt V f df (.ref a) v2 il) (hI : V il = some (listOf ([] : List Value).toArray e))
    (k : ∀ s' t', St R V L m s' → Q (.int ((p + 1 : Nat) : Int) t') s') : wpAny (model prog w) A (call (.ref 160) [.bytes xs.toArray tb, .int (p : Nat) tp, .ref f]) Q NoE s := by
  refine' callDef G σ (f := 160) (binds := [(nm "octets", _), (nm "at", _), (nm "frame", _)]) ?ho ?hcd ?room ?handled ?bind ?loc ?hco ?hgen ?hk ?hcell ?h
  walk_at "enter"
  intro R' A' L' s₁ G' hA' hd' hu' back σ₁
  simp only [bindsM, List.foldl_cons, List.foldl_nil] at σ₁
  obtain ⟨b1, b2, b3⟩ := at_get hx
  repeat (walk_at "go")
  refine fr_inner G' (by assumption) hF ?_
  intro s₂ σ₂
  repeat (walk_at "go")
  rename_i a₃ s₃ ga₃ σ₃
  refine lsNeNil (by assumption) (by walk_at "view") (by walk_at "view") (by omega) ?_
  repeat (walk_at "go")
  refine ifB (fun h => Bool.noConfusion (show false = true from h)) (fun _ => ?_)
  repeat (walk_at "go")
  refine fr_first G' (by assumption) (hF.mono (by walk_at "le")) rfl ?_
  intro s₄ σ₄
  repeat (walk_at "go")
  refine ifB (fun _ => ?_) (fun h => Bool.noConfusion (show true = false from h))
  repeat (walk_at "go")
  refine byItem (by assumption) (by omega) b1 ?_
  intro s₅ t₅ σ₅
  rw [b2]
  repeat (walk_at "go")
  refine ifB (fun h => absurd h (by simp)) (fun _ => ?_)
  repeat (walk_at "go")
  refine bySlice2 (i := p + 1) (j := p + 1 + 1) (by assumption) (by walk_at "view") (by omega) (by omega) (by omega) (by omega) ?_
  intro s₆ t₆ σ₆
  repeat (walk_at "go")
  refine byEq ?_
  repeat (walk_at "go")
  rw [nats_beq, cut_one b3]
  refine ifB (fun _ => ?_) (fun h => absurd h (by simp [nats]))
  repeat (walk_at "go")
  have ep : (p : Int) + 1 = ((p + 1 : Nat) : Int) := by omega
  rw [ep]
  refine k _ _ (St.weaken (back _ _ _ (by assumption)) ?_)
  walk_at "le"
end


/-! ## part F15 -/

/-! ## reading, by what the loop's turns do -/
structure NewFrame (V V' : View) (f df il : Addr) : Prop where
  gf : Gone V f
  gd : Gone V df
  gi : Gone V il
  nif : il ≠ f
  at_ : FrameAt V' f df .none .none il
  lst : ∃ e, V' il = some (listOf ([] : List Value).toArray e)

def Loc (xs : List UInt8) (fl : Addr) (m : Str → Option Value) (p : Nat) : Prop := (∃ t, m (nm "octets") = some (.bytes xs.toArray t)) ∧ (∃ t, m (nm "at") = some (.int (p : Nat) t)) ∧ m (nm "frames") = some (.ref fl)

section
variable (R : Rest) (L : Addr) (xs : List UInt8) (fl : Addr) (W : Shared → Prop)

def TOpen : Prop := ∀ V m s p fs f e r, St R V L m s → Loc xs fl m p → V fl = some (listOf (fs ++ [Value.ref f]).toArray e) → fs.length ≤ 5000 → (nats xs).drop p = 40 :: r →
  (∀ s' m' V' f' df' il' e', (∀ a o, V a = some o → a ≠ fl → V' a = some o) → V' fl = some (listOf (fs ++ [Value.ref f] ++ [Value.ref f']).toArray e') → NewFrame V V' f' df' il' → Loc xs fl m' (p + 1) → St R V' L m' s' → W s') → W s
def TFirst : Prop := ∀ V m s p fs f df il e e1 n ds c r, St R V L m s → Loc xs fl m p → V fl = some (listOf (fs ++ [Value.ref f]).toArray e) → fs ≠ [] → fs.length ≤ 5000 → FrameAt V f df .none .none il → V il = some (listOf ([] : List Value).toArray e1) →
  (nats xs).drop p = ds ++ c :: r → IsNum n ds → (c = 32 ∨ c = 41) →
  (∀ s' m' V' x dx kl, (∀ a o, V a = some o → a ≠ df → V' a = some o) → NewNode V V' x dx kl n → FrameAt V' f df (.ref x) (.ref x) il → Loc xs fl m' (p + ds.length) → St R V' L m' s' → W s') → W s
def TNext : Prop := ∀ V m s p fs f df il e e1 e2 n ds c r a last nl lkl (vs : List Value), St R V L m s → Loc xs fl m p → V fl = some (listOf (fs ++ [Value.ref f]).toArray e) → fs ≠ [] → fs.length ≤ 5000 → FrameAt V f df (.ref a) (.ref last) il → V il = some (listOf ([] : List Value).toArray e1) →
  NodeAt V last nl lkl → V lkl = some (listOf vs.toArray e2) → vs.length ≤ 5000 → (nats xs).drop p = 32 :: (ds ++ c :: r) → IsNum n ds → (c = 32 ∨ c = 41) →
  (∀ s' m' V' x dx kl e', (∀ a o, V a = some o → a ≠ df → a ≠ lkl → V' a = some o) → V' lkl = some (listOf (vs ++ [Value.ref x]).toArray e') → NewNode V V' x dx kl n → FrameAt V' f df (.ref a) (.ref x) il → Loc xs fl m' (p + 1 + ds.length) → St R V' L m' s' → W s') → W s
def TBlank : Prop := ∀ V m s p fs f df il e e1 r a v2, St R V L m s → Loc xs fl m p → V fl = some (listOf (fs ++ [Value.ref f]).toArray e) → fs ≠ [] → fs.length ≤ 5000 → FrameAt V f df (.ref a) v2 il → V il = some (listOf ([] : List Value).toArray e1) →
  (nats xs).drop p = 32 :: 40 :: r → (∀ s' m', Loc xs fl m' (p + 1) → St R V L m' s' → W s') → W s
def TClose : Prop := ∀ V m s p fs f df il v1 v2 f' df' il' e e1 e2 e3 r a last nl lkl (vs us ws : List Value), St R V L m s → Loc xs fl m p → V fl = some (listOf (fs ++ [Value.ref f] ++ [Value.ref f']).toArray e) → fs.length ≤ 5000 →
  FrameAt V f df v1 v2 il → V il = some (listOf us.toArray e1) → us.length ≤ 5000 → FrameAt V f' df' (.ref a) (.ref last) il' → V il' = some (listOf ws.toArray e2) → NodeAt V last nl lkl → V lkl = some (listOf vs.toArray e3) → vs.length + ws.length ≤ 5000 → ws.length ≠ 1 →
  fl ≠ il → fl ≠ il' → fl ≠ lkl → il ≠ lkl → il ≠ il' → (nats xs).drop p = 41 :: r →
  (∀ s' m' V' e e1 e3, (∀ b o, V b = some o → b ≠ fl → b ≠ il → b ≠ lkl → V' b = some o) → V' fl = some (listOf (fs ++ [Value.ref f]).toArray e) → V' il = some (listOf (us ++ [Value.ref a]).toArray e1) → V' lkl = some (listOf (vs ++ ws).toArray e3) → Loc xs fl m' (p + 1) → St R V' L m' s' → W s') → W s

/-- a row of threads is read into the list of the frame at hand -/
def RdTs (ts : List PT) : Prop := ∀ V B m s p fs f df v1 v2 il (us : List Value) e e1 r, St R V L m s → Loc xs fl m p → Le B V → FrameAt V f df v1 v2 il → V fl = some (listOf (fs ++ [Value.ref f]).toArray e) → V il = some (listOf us.toArray e1) → Gone B fl → Gone B il → fl ≠ il →
  fs.length + (txts ts).length ≤ 5000 → us.length + (txts ts).length ≤ 5000 → (nats xs).drop p = txts ts ++ r →
  (∀ s' m' V' B' ats e e1, Le B B' → Le B' V' → (∀ a o, V a = some o → a ≠ fl → a ≠ il → V' a = some o) → (∀ a o, V a = some o → Gone B a → Gone B' a) → AtVs B' ats → AT.pts ats = ts → V' fl = some (listOf (fs ++ [Value.ref f]).toArray e) → V' il = some (listOf (us ++ refs ats).toArray e1) →
    Loc xs fl m' (p + (txts ts).length) → St R V' L m' s' → W s') → W s

/-- the chain that a frame has read: `C` takes the kids of its last node -/
structure Chain (B V : View) (f df il lkl : Addr) (C : List AT → AT) (D : List PT → PT) : Prop where
  fr : ∃ a last nl, FrameAt V f df (.ref a) (.ref last) il ∧ NodeAt B last nl lkl ∧ ∀ ks, (C ks).addr = a
  kids : ∃ e, V lkl = some (listOf ([] : List Value).toArray e)
  gone : Gone B lkl
  make : ∀ V' ks e, Le B V' → V' lkl = some (listOf (refs ks).toArray e) → AtVs V' ks → AtV V' (C ks)
  pt : ∀ ks, (C ks).pt = D (AT.pts ks)

variable {R L xs fl W}
variable {keys : List Int} {kf : Int → List Int}
theorem head_c (ks : List PT) (r : List Nat) : ∃ c t, rest ks ++ 41 :: r = c :: t ∧ (c = 32 ∨ c = 41) := by
  unfold rest
  split
  · exact ⟨32, _, rfl, .inl rfl⟩
  · split
    · exact ⟨41, r, rfl, .inr rfl⟩
    · exact ⟨32, _, rfl, .inl rfl⟩
theorem pts_len (ats : List AT) : (AT.pts ats).length = ats.length := by rw [AT.pts_map, List.length_map]
theorem refs_len (ats : List AT) : (refs ats).length = ats.length := by unfold refs; rw [List.length_map]
theorem txts_ge : ∀ ks : List PT, ks.length ≤ (txts ks).length
  | [] => Nat.zero_le _
  | k :: r => by
    have := txts_ge r
    rw [txts]
    simp only [List.length_append, List.length_cons, List.length_nil]
    omega
theorem le_close {B V V' : View} {fl il lkl : Addr} {o : Obj} (h : Le B V) (gf : Gone B fl) (gi : Gone B il) (gl : Gone B lkl) (hk : ∀ b o, V b = some o → b ≠ fl → b ≠ il → b ≠ lkl → V' b = some o) (hl : V' lkl = some o) : Le (upd B lkl o) V' := fun a oa e => by
  by_cases ha : a = lkl
  · subst ha; rw [upd_same] at e; rw [hl]; exact e
  · rw [upd_at, if_neg ha] at e
    exact hk a oa (h a oa e) (ne_fresh gf e) (ne_fresh gi e) ha

/-- the last step: the frame is closed -/
theorem rd_close {T : PT} (t4 : TClose R L xs fl W) {V B B0 : View} {m s p} {fs : List Value} {f df v1 v2 il f' df' il' lkl} {us : List Value} {ats : List AT} {e e1 e2 r} {C : List AT → AT} {D : List PT → PT} (hD : D (AT.pts ats) = T) (σ : St R V L m s) (hL : Loc xs fl m p) (hB : Le B V) (hF : FrameAt V f df v1 v2 il)
    (hfl : V fl = some (listOf (fs ++ [Value.ref f] ++ [Value.ref f']).toArray e)) (hil : V il = some (listOf us.toArray e1)) (hil' : V il' = some (listOf (refs ats).toArray e2)) (hC : Chain B0 V f' df' il' lkl C D) (hB0 : Le B0 B) (gl : Gone B lkl) (hA : AtVs B ats) (gf : Gone B fl) (gi : Gone B il) (n1 : fl ≠ il) (n2 : fl ≠ il') (n3 : fl ≠ lkl) (n4 : il ≠ lkl) (n5 : il ≠ il')
    (z1 : fs.length + 1 ≤ 5000) (z2 : us.length ≤ 4999) (z3 : ats.length ≤ 4999) (z4 : ats.length ≠ 1) (hx : (nats xs).drop p = 41 :: r)
    (k : ∀ s' m' V' B' at_ e e1, Le B B' → Le B' V' → (∀ a o, V a = some o → a ≠ fl → a ≠ il → a ≠ lkl → V' a = some o) → (∀ a, Gone B a → a ≠ lkl → Gone B' a) → AtV B' at_ → at_.pt = T → V' fl = some (listOf (fs ++ [Value.ref f]).toArray e) → V' il = some (listOf (us ++ [Value.ref at_.addr]).toArray e1) →
        Loc xs fl m' (p + 1) → St R V' L m' s' → W s') : W s := by
  obtain ⟨a, last, nl, hF', hN, haddr⟩ := hC.fr
  obtain ⟨e3, hk⟩ := hC.kids
  refine t4 V m s p fs f df il v1 v2 f' df' il' e e1 e2 e3 r a last nl lkl [] us (refs ats) σ hL hfl (by omega) hF hil (by omega) hF' hil' (hN.mono (Le.trans hB0 hB)) hk (by rw [refs_len]; simp; omega) (by rw [refs_len]; exact z4) n1 n2 n3 n4 n5 hx ?_
  intro s' m' V' e' e1' e3' hkeep hfl' hil1 hlk hL' σ'
  rw [List.nil_append] at hlk
  have hB' : Le B (upd B lkl (listOf (refs ats).toArray e3')) := Le.upd gl (Le.refl _)
  have hAt : AtV (upd B lkl (listOf (refs ats).toArray e3')) (C ats) := hC.make _ ats e3' (Le.trans hB0 hB') upd_same (AtVs.mono hB' _ hA)
  refine k s' m' V' (upd B lkl (listOf (refs ats).toArray e3')) (C ats) e' e1' hB' (le_close hB gf gi gl hkeep hlk) hkeep (fun b gb hb => Gone.upd hb gb) hAt (by rw [hC.pt, hD]) hfl' (by rw [haddr]; exact hil1) hL' σ'

theorem rd_chain (hNum : ∀ n ∈ keys, IsNum n (decs n)) (t2 : TNext R L xs fl W) (t3 : TBlank R L xs fl W) (t4 : TClose R L xs fl W) (N : Nat) (IH : ∀ ts : List PT, (∀ t ∈ ts, OKT keys kf t) → (txts ts).length < N → RdTs R L xs fl W ts) (T : PT) :
    ∀ (M : Nat) (ks : List PT) (V B : View) m s p (fs : List Value) f df v1 v2 il f' df' il' lkl (us : List Value) e e1 e2 r (C : List AT → AT) (D : List PT → PT), (rest ks).length = M → M ≤ N → (∀ t ∈ ks, OKT keys kf t) → D ks = T → St R V L m s → Loc xs fl m p → Le B V → FrameAt V f df v1 v2 il →
      V fl = some (listOf (fs ++ [Value.ref f] ++ [Value.ref f']).toArray e) → V il = some (listOf us.toArray e1) → V il' = some (listOf ([] : List Value).toArray e2) → Chain B V f' df' il' lkl C D → Gone B fl → Gone B il → Gone B il' → Gone B df' → fl ≠ il → fl ≠ il' → fl ≠ lkl → il ≠ lkl → il ≠ il' → il' ≠ lkl → df' ≠ df → df' ≠ f →
      fs.length + 1 + M ≤ 5000 → us.length ≤ 4999 → M ≤ 4999 → (nats xs).drop p = rest ks ++ 41 :: r →
      (∀ s' m' V' B' at_ e e1, Le B B' → Le B' V' → (∀ a o, V a = some o → a ≠ fl → a ≠ il → a ≠ il' → a ≠ df' → a ≠ lkl → V' a = some o) → (∀ a o, V a = some o → Gone B a → a ≠ lkl → a ≠ df' → Gone B' a) → AtV B' at_ → at_.pt = T → V' fl = some (listOf (fs ++ [Value.ref f]).toArray e) → V' il = some (listOf (us ++ [Value.ref at_.addr]).toArray e1) →
        Loc xs fl m' (p + (rest ks).length + 1) → St R V' L m' s' → W s') → W s := by
  intro M
  induction M using Nat.strongRecOn with
  | ind M ih =>
  intro ks V B m s p fs f df v1 v2 il f' df' il' lkl us e e1 e2 r C D hM hMN hOK hD σ hL hB hF hfl hil hil' hC gf gi gi' gd n1 n2 n3 n4 n5 n6 n7 n8 z1 z2 z3 hx k
  match ks, hM, hOK, hD, hx, k with
  | [], hM, hOK, hD, hx, k =>
    refine rd_close (T := T) (ats := []) (B0 := B) t4 hD σ hL hB hF hfl hil hil' hC (Le.refl _) hC.gone trivial gf gi n1 n2 n3 n4 n5 (by omega) z2 (by simp) (by simp) (r := r) hx ?_
    intro s' m' V' B' at_ e' e1' h1 h2 h3 h4 h5 h6 h7 h8 h9 h10
    exact k s' m' V' B' at_ e' e1' h1 h2 (fun a o e a1 a2 a3 a4 a5 => h3 a o e a1 a2 a5) (fun a o e g a1 a2 => h4 a g a1) h5 h6 h7 h8 h9 h10
  | [.nd n' ks'], hM, hOK, hD, hx, k =>
    obtain ⟨hk1, hk2, hk3⟩ := (hOK _ (List.mem_singleton.mpr rfl)).inv
    have hn := hNum n' hk1
    have he : rest [PT.nd n' ks'] = 32 :: (decs n' ++ rest ks') := by simp [rest, chain, txt_nd]
    rw [he] at hM hx k
    obtain ⟨c, tl, hc, hc2⟩ := head_c ks' r
    obtain ⟨a, last, nl, hF', hN, haddr⟩ := hC.fr
    obtain ⟨e3, hk⟩ := hC.kids
    have hdpos : 0 < (decs n').length := List.length_pos_iff.mpr hn.ne
    simp only [List.length_cons, List.length_append] at hM
    refine t2 V m s p (fs ++ [Value.ref f]) f' df' il' e e2 e3 n' (decs n') c tl a last nl lkl [] σ hL hfl (by simp) (by simp; omega) hF' hil' (hN.mono hB) hk (by simp) ?_ hn hc2 ?_
    · rw [hx, ← hc]; simp
    intro s₁ m₁ V₁ x dx kl e' hkeep hlk hNew hF₁ hL₁ σ₁
    obtain ⟨es, nn, tt, hdx, hE⟩ := hNew.hd
    rw [List.nil_append] at hlk
    have kx : ∀ {a : Addr} {o : Obj}, V a = some o → a ≠ x := fun h => ne_fresh hNew.gx h
    have kd : ∀ {a : Addr} {o : Obj}, V a = some o → a ≠ dx := fun h => ne_fresh hNew.gd h
    have kk : ∀ {a : Addr} {o : Obj}, V a = some o → a ≠ kl := fun h => ne_fresh hNew.gk h
    obtain ⟨odf', hodf'⟩ := hF'.known
    have dl := hF'.list_ne hk
    have gBk : Gone B kl := Gone.of_le hB hNew.gk
    have hB1 : Le B (upd (upd (upd B lkl (listOf [Value.ref x].toArray e')) dx (dictOf es nn)) x (instObj fNode dx)) := by
      have q1 : Gone B dx := Gone.of_le hB hNew.gd
      have q2 : Gone B x := Gone.of_le hB hNew.gx
      exact Le.upd q2 (Le.upd q1 (Le.upd hC.gone (Le.refl _)))
    have hG1 : ∀ a, a ≠ lkl → a ≠ dx → a ≠ x → Gone B a → Gone (upd (upd (upd B lkl (listOf [Value.ref x].toArray e')) dx (dictOf es nn)) x (instObj fNode dx)) a := fun a a1 a2 a3 g => Gone.upd a3 (Gone.upd a2 (Gone.upd a1 g))
    have hlv : Le (upd (upd (upd B lkl (listOf [Value.ref x].toArray e')) dx (dictOf es nn)) x (instObj fNode dx)) V₁ := fun b ob eb => by
      by_cases h1 : b = x
      · subst h1; rw [upd_same] at eb; rw [hNew.hx]; exact eb
      · rw [upd_at, if_neg h1] at eb
        by_cases h2 : b = dx
        · subst h2; rw [upd_same] at eb; rw [hdx]; exact eb
        · rw [upd_at, if_neg h2] at eb
          by_cases h3 : b = lkl
          · subst h3; rw [upd_same] at eb; rw [hlk]; exact eb
          · rw [upd_at, if_neg h3] at eb
            exact hkeep b ob (hB b ob eb) (ne_fresh gd eb) h3
    generalize hBB : upd (upd (upd B lkl (listOf [Value.ref x].toArray e')) dx (dictOf es nn)) x (instObj fNode dx) = B₁ at hB1 hG1 hlv
    have b1l : B₁ lkl = some (listOf [Value.ref x].toArray e') := by rw [← hBB]; exact upd_ne (kx hk) (upd_ne (kd hk) upd_same)
    have b1x : B₁ x = some (instObj fNode dx) := by rw [← hBB]; exact upd_same
    have b1d : B₁ dx = some (dictOf es nn) := by rw [← hBB]; exact upd_ne hNew.xd.symm upd_same
    clear hBB
    have hNx : NodeAt B₁ x n' kl := hE.node b1x b1d
    have hC₁ : Chain B₁ V₁ f' df' il' kl (fun ks => C [.nd x n' ks]) (fun ks => D [.nd n' ks]) := by
      refine ⟨⟨a, x, n', hF₁, hNx, fun _ => haddr _⟩, ⟨0, hNew.hk⟩, hG1 _ (kk hk).symm hNew.kd hNew.kx gBk, fun V' ks ep h1 h2 h3 => ?_, fun ks => ?_⟩
      · refine hC.make V' [.nd x n' ks] e' (Le.trans hB1 h1) (h1 _ _ b1l) ⟨⟨⟨kl, ep, hNx.mono h1, h2⟩, h3⟩, trivial⟩
      · rw [hC.pt]
        show D [AT.pt (.nd x n' ks)] = _
        rw [AT.pt]
    obtain ⟨nfl, nfd⟩ := hF.list_ne hfl
    obtain ⟨nkf, nkd⟩ := hF.list_ne hk
    obtain ⟨odf, hodf⟩ := hF.known
    refine ih (rest ks').length (by omega) ks' V₁ B₁ m₁ s₁ (p + 1 + (decs n').length) fs f df v1 v2 il f' df' il' kl us e e1 e2 r _ _ rfl (by omega) hk3 hD σ₁ hL₁ hlv (hF.keep (fun o h => hkeep _ _ h n8.symm nkf.symm) (fun o h => hkeep _ _ h n7.symm nkd.symm))
      (hkeep _ _ hfl (hF'.list_ne hfl).2 n3) (hkeep _ _ hil (hF'.list_ne hil).2 n4) (hkeep _ _ hil' (hF'.list_ne hil').2 n6) hC₁ (hG1 _ n3 (kd hfl) (kx hfl) gf) (hG1 _ n4 (kd hil) (kx hil) gi) (hG1 _ n6 (kd hil') (kx hil') gi') (hG1 _ dl.2.symm (kd hodf') (kx hodf') gd) n1 n2 (kk hfl) (kk hil) n5 (kk hil') n7 n8 (by omega) z2 (by omega) ?_ ?_
    · have := at_skip (a := 32 :: decs n') (t := rest ks' ++ 41 :: r) (by rw [hx]; simp)
      have ez : p + (32 :: decs n').length = p + 1 + (decs n').length := by simp; omega
      rw [ez] at this; exact this
    · intro s' m' V' B' at_ e' e1' h1 h2 h3 h4 h5 h6 h7 h8 h9 h10
      refine k s' m' V' B' at_ e' e1' (Le.trans hB1 h1) h2 (fun a o e a1 a2 a3 a4 a5 => h3 a o (hkeep a o e a4 a5) a1 a2 a3 a4 (kk e)) (fun a o e g a1 a2 => h4 a o (hkeep a o e a2 a1) (hG1 a a1 (kd e) (kx e) g) (kk e) a2) h5 h6 h7 h8 ?_ h10
      have ez : p + 1 + (decs n').length + (rest ks').length + 1 = p + (32 :: (decs n' ++ rest ks')).length + 1 := by simp; omega
      rw [← ez]; exact h9
  | k1 :: k2 :: kr, hM, hOK, hD, hx, k =>
    have he : rest (k1 :: k2 :: kr) = 32 :: txts (k1 :: k2 :: kr) := by simp [rest]
    have h40 : ∃ tl, txts (k1 :: k2 :: kr) = 40 :: tl := ⟨_, by rw [txts]; rfl⟩
    have hkl : 2 ≤ (k1 :: k2 :: kr).length := by simp
    generalize k1 :: k2 :: kr = ks at *
    rw [he] at hM hx k
    rw [List.length_cons] at hM
    obtain ⟨tl, h40⟩ := h40
    obtain ⟨a, last, nl, hF', hN, haddr⟩ := hC.fr
    obtain ⟨e3, hk⟩ := hC.kids
    refine t3 V m s p (fs ++ [Value.ref f]) f' df' il' e e2 (tl ++ 41 :: r) a (.ref last) σ hL hfl (by simp) (by simp; omega) hF' hil' (by rw [hx, h40]; rfl) ?_
    intro s₁ m₁ hL₁ σ₁
    have hx₁ : (nats xs).drop (p + 1) = txts ks ++ 41 :: r := at_skip (a := [32]) (by rw [hx]; rfl)
    refine IH ks hOK (by omega) V B m₁ s₁ (p + 1) (fs ++ [Value.ref f]) f' df' (.ref a) (.ref last) il' [] e e2 (41 :: r) σ₁ hL₁ hB hF' hfl hil' gf gi' n2 (by simp; omega) (by simp; omega) hx₁ ?_
    intro s₂ m₂ V₂ B₂ ats e4 e5 h1 h2 h3 h4 h5 h6 h7 h8 h9 h10
    rw [List.nil_append] at h8
    obtain ⟨nfl, nfd⟩ := hF.list_ne hfl
    obtain ⟨nif, nid⟩ := hF.list_ne hil'
    obtain ⟨mfl, mfd⟩ := hF'.list_ne hfl
    obtain ⟨mif, mid⟩ := hF'.list_ne hil'
    have hal : ats.length = ks.length := by rw [← pts_len, h6]
    have hge := txts_ge ks
    have hC₂ : Chain B V₂ f' df' il' lkl C D := ⟨⟨a, last, nl, hF'.keep (fun o h => h3 _ _ h mfl.symm mif.symm) (fun o h => h3 _ _ h mfd.symm mid.symm), hN, haddr⟩, ⟨e3, h3 _ _ hk n3.symm n6.symm⟩, hC.gone, hC.make, hC.pt⟩
    refine rd_close (T := T) (ats := ats) (B0 := B) t4 (by rw [h6]; exact hD) h10 h9 h2 (hF.keep (fun o h => h3 _ _ h nfl.symm nif.symm) (fun o h => h3 _ _ h nfd.symm nid.symm)) h7 (h3 _ _ hil n1.symm n5) h8 hC₂ h1 (h4 _ _ hk hC.gone) h5 (h4 _ _ hfl gf) (h4 _ _ hil gi) n1 n2 n3 n4 n5 (by omega) z2 (by omega) (by omega) (r := r) (at_skip hx₁) ?_
    intro s' m' V' B' at_ e' e1' g1 g2 g3 g4 g5 g6 g7 g8 g9 g10
    refine k s' m' V' B' at_ e' e1' (Le.trans h1 g1) g2 (fun a o e a1 a2 a3 a4 a5 => g3 a o (h3 a o e a1 a3) a1 a2 a5) (fun a o e g a1 a2 => g4 a (h4 a o e g) a1) g5 g6 g7 g8 ?_ g10
    have ez : p + 1 + (txts ks).length + 1 = p + (32 :: txts ks).length + 1 := by simp; omega
    rw [← ez]; exact g9

theorem rd_ts (hNum : ∀ n ∈ keys, IsNum n (decs n)) (t0 : TOpen R L xs fl W) (t1 : TFirst R L xs fl W) (t2 : TNext R L xs fl W) (t3 : TBlank R L xs fl W) (t4 : TClose R L xs fl W) :
    ∀ (N : Nat) (ts : List PT), (∀ t ∈ ts, OKT keys kf t) → (txts ts).length = N → RdTs R L xs fl W ts := by
  intro N
  induction N using Nat.strongRecOn with
  | ind N IH =>
  intro ts hOK hN V B m s p fs f df v1 v2 il us e e1 r σ hL hB hF hfl hil gf gi n1 z1 z2 hx k
  match ts, hOK, hN, z1, z2, hx, k with
  | [], hOK, hN, z1, z2, hx, k =>
    exact k s m V B [] e e1 (Le.refl _) hB (fun a o h _ _ => h) (fun a o _ g => g) trivial rfl hfl (by rw [show us ++ refs [] = us by simp [refs]]; exact hil) hL σ
  | .nd n ks :: rr, hOK, hN, z1, z2, hx, k =>
    obtain ⟨hk1, hk2, hk3⟩ := (hOK _ List.mem_cons_self).inv
    have hn := hNum n hk1
    have he : txts (.nd n ks :: rr) = 40 :: (decs n ++ (rest ks ++ 41 :: txts rr)) := by simp [txts, txt_nd]
    rw [he] at hN z1 z2 hx k
    have hdpos : 0 < (decs n).length := List.length_pos_iff.mpr hn.ne
    simp only [List.length_cons, List.length_append] at hN z1 z2
    refine t0 V m s p fs f e (decs n ++ (rest ks ++ 41 :: (txts rr ++ r))) σ hL hfl (by omega) (by rw [hx]; simp) ?_
    intro s₁ m₁ V₁ f' df' il' e' hkeep hfl₁ hNew hL₁ σ₁
    obtain ⟨e2, hil'⟩ := hNew.lst
    have kf' : ∀ {a : Addr} {o : Obj}, V a = some o → a ≠ f' := fun h => ne_fresh hNew.gf h
    have kd' : ∀ {a : Addr} {o : Obj}, V a = some o → a ≠ df' := fun h => ne_fresh hNew.gd h
    have ki' : ∀ {a : Addr} {o : Obj}, V a = some o → a ≠ il' := fun h => ne_fresh hNew.gi h
    obtain ⟨nfl, nfd⟩ := hF.list_ne hfl
    obtain ⟨nil, nid⟩ := hF.list_ne hil
    obtain ⟨odf, hodf⟩ := hF.known
    have hF₁ := hF.keep (V' := V₁) (fun o h => hkeep _ _ h nfl.symm) (fun o h => hkeep _ _ h nfd.symm)
    have hil₁ := hkeep _ _ hil n1.symm
    have hB₁ : Le B V₁ := fun a o h => hkeep a o (hB a o h) (ne_fresh gf h)
    have hx₁ : (nats xs).drop (p + 1) = decs n ++ (rest ks ++ 41 :: (txts rr ++ r)) := at_skip (a := [40]) (by rw [hx]; simp)
    obtain ⟨c, tl, hc, hc2⟩ := head_c ks (txts rr ++ r)
    refine t1 V₁ m₁ s₁ (p + 1) (fs ++ [Value.ref f]) f' df' il' e' e2 n (decs n) c tl σ₁ hL₁ hfl₁ (by simp) (by simp; omega) hNew.at_ hil' (by rw [hx₁, ← hc]) hn hc2 ?_
    intro s₂ m₂ V₂ x dx kl hkeep₂ hNd hF'₂ hL₂ σ₂
    obtain ⟨es, nn, tt, hdx, hE⟩ := hNd.hd
    obtain ⟨mfl, mfd⟩ := hNew.at_.list_ne hfl₁
    obtain ⟨mil, mid⟩ := hNew.at_.list_ne hil₁
    obtain ⟨mil', mid'⟩ := hNew.at_.list_ne hil'
    have kx : ∀ {a : Addr} {o : Obj}, V₁ a = some o → a ≠ x := fun h => ne_fresh hNd.gx h
    have kd : ∀ {a : Addr} {o : Obj}, V₁ a = some o → a ≠ dx := fun h => ne_fresh hNd.gd h
    have kk : ∀ {a : Addr} {o : Obj}, V₁ a = some o → a ≠ kl := fun h => ne_fresh hNd.gk h
    obtain ⟨odf', hodf'⟩ := hNew.at_.known
    have hBB : Le B (upd (upd B dx (dictOf es nn)) x (instObj fNode dx)) := Le.upd (Gone.of_le hB₁ hNd.gx) (Le.upd (Gone.of_le hB₁ hNd.gd) (Le.refl _))
    have hGG : ∀ a, a ≠ dx → a ≠ x → Gone B a → Gone (upd (upd B dx (dictOf es nn)) x (instObj fNode dx)) a := fun a a1 a2 g => Gone.upd a2 (Gone.upd a1 g)
    have gdB : Gone B df' := Gone.of_le hB hNew.gd
    have giB : Gone B il' := Gone.of_le hB hNew.gi
    have hBV : Le (upd (upd B dx (dictOf es nn)) x (instObj fNode dx)) V₂ := fun b ob eb => by
      by_cases h1 : b = x
      · subst h1; rw [upd_same] at eb; rw [hNd.hx]; exact eb
      · rw [upd_at, if_neg h1] at eb
        by_cases h2 : b = dx
        · subst h2; rw [upd_same] at eb; rw [hdx]; exact eb
        · rw [upd_at, if_neg h2] at eb
          exact hkeep₂ b ob (hB₁ b ob eb) (ne_fresh gdB eb)
    have b1x : upd (upd B dx (dictOf es nn)) x (instObj fNode dx) x = some (instObj fNode dx) := upd_same
    have b1d : upd (upd B dx (dictOf es nn)) x (instObj fNode dx) dx = some (dictOf es nn) := upd_ne hNd.xd.symm upd_same
    generalize upd (upd B dx (dictOf es nn)) x (instObj fNode dx) = B₂ at *
    have hNx : NodeAt B₂ x n kl := hE.node b1x b1d
    have hC : Chain B₂ V₂ f' df' il' kl (.nd x n) (.nd n) := by
      refine ⟨⟨x, x, n, hF'₂, hNx, fun _ => rfl⟩, ⟨0, hNd.hk⟩, hGG _ hNd.kd hNd.kx (Gone.of_le hB₁ hNd.gk), fun V' ks ep h1 h2 h3 => ⟨⟨kl, ep, hNx.mono h1, h2⟩, h3⟩, fun ks => by rw [AT.pt]⟩
    have hx₂ : (nats xs).drop (p + 1 + (decs n).length) = rest ks ++ 41 :: (txts rr ++ r) := at_skip hx₁
    refine rd_chain hNum t2 t3 t4 N (fun ts h1 h2 => IH _ h2 ts h1 rfl) (.nd n ks) (rest ks).length ks V₂ B₂ m₂ s₂ (p + 1 + (decs n).length) fs f df v1 v2 il f' df' il' kl us e' e1 e2 (txts rr ++ r) (.nd x n) (.nd n) rfl (by omega) hk3 rfl σ₂ hL₂ hBV
      (hF₁.keep (fun o h => hkeep₂ _ _ h (fun q => by have z := hF.1; rw [q] at z; exact absurd rfl (kd' z))) (fun o h => hkeep₂ _ _ h (kd' hodf))) (hkeep₂ _ _ hfl₁ mfd) (hkeep₂ _ _ hil₁ mid) (hkeep₂ _ _ hil' mid') hC (hGG _ (kd hfl₁) (kx hfl₁) gf) (hGG _ (kd hil₁) (kx hil₁) gi) (hGG _ (kd hil') (kx hil') giB) (hGG _ (kd hodf') (kx hodf') gdB)
      n1 (ki' hfl) (kk hfl₁) (kk hil₁) (ki' hil) (kk hil') (kd' hodf).symm (kd' hF.1).symm (by omega) (by omega) (by omega) hx₂ ?_
    intro s₃ m₃ V₃ B₃ at_ e3 e4 h1 h2 h3 h4 h5 h6 h7 h8 h9 h10
    have up : ∀ a o, V a = some o → a ≠ fl → a ≠ il → V₃ a = some o := fun a o h a1 a2 => by
      have q1 := hkeep a o h a1
      exact h3 a o (hkeep₂ a o q1 (kd' h)) a1 a2 (ki' h) (kd' h) (kk q1)
    have gup : ∀ a o, V a = some o → Gone B a → Gone B₃ a := fun a o h g => by
      by_cases hafl : a = fl
      · subst hafl; exact h4 _ _ (hkeep₂ _ _ hfl₁ mfd) (hGG _ (kd hfl₁) (kx hfl₁) g) (kk hfl₁) mfd
      · have q1 := hkeep a o h hafl
        exact h4 a o (hkeep₂ a o q1 (kd' h)) (hGG a (kd q1) (kx q1) g) (kk q1) (kd' h)
    have hx₃ : (nats xs).drop (p + 1 + (decs n).length + (rest ks).length + 1) = txts rr ++ r := by
      have q := at_skip (a := rest ks ++ [41]) (t := txts rr ++ r) (by rw [hx₂]; simp)
      have ez : p + 1 + (decs n).length + (rest ks ++ [41]).length = p + 1 + (decs n).length + (rest ks).length + 1 := by simp; omega
      rw [ez] at q; exact q
    refine IH (txts rr).length (by omega) rr (fun t ht => hOK t (List.mem_cons_of_mem _ ht)) rfl V₃ B₃ m₃ s₃ _ fs f df v1 v2 il (us ++ [Value.ref at_.addr]) e3 e4 r h10 h9 h2 (hF.keep (fun o h => up _ _ h nfl.symm nil.symm) (fun o h => up _ _ h nfd.symm nid.symm)) h7 h8 (gup _ _ hfl gf) (gup _ _ hil gi) n1 (by omega) (by simp; omega) hx₃ ?_
    intro s₄ m₄ V₄ B₄ ats e5 e6 g1 g2 g3 g4 g5 g6 g7 g8 g9 g10
    refine k s₄ m₄ V₄ B₄ (at_ :: ats) e5 e6 (Le.trans hBB (Le.trans h1 g1)) g2 (fun a o h a1 a2 => g3 a o (up a o h a1 a2) a1 a2) (fun a o h g => ?_) ⟨AtV.mono g1 _ h5, g5⟩ (by rw [AT.pts, h6, g6]) g7 (by rw [g8]; simp [refs]) ?_ g10
    · by_cases hafl : a = fl
      · subst hafl; exact g4 _ _ h7 (gup _ _ h g)
      · by_cases hail : a = il
        · subst hail; exact g4 _ _ h8 (gup _ _ h g)
        · exact g4 _ _ (up a o h hafl hail) (gup _ _ h g)
    · have ez : p + 1 + (decs n).length + (rest ks).length + 1 + (txts rr).length = p + (40 :: (decs n ++ (rest ks ++ 41 :: txts rr))).length := by simp; omega
      rw [← ez]; exact g9

end
section
variable (prog : Program) (w : World) (A : Around) (R : Rest) (L : Addr) (xs : List UInt8) (fl : Addr) (W : Shared → Prop)
/-- a turn that reads a member, by what the call does -/
def TMem : Prop := ∀ (V : View) m s p (fs : List Value) f e c r (Post : Nat → View → Prop), St R V L m s → Loc xs fl m p → V fl = some (listOf (fs ++ [Value.ref f]).toArray e) → fs ≠ [] → fs.length ≤ 5000 → (nats xs).drop p = c :: r → c ≠ 40 → c ≠ 41 →
  (∀ m₁ s₁ tb tp (Qc : Value → Shared → Prop), St R V L m₁ s₁ → (∀ s' t' V' q, Post q V' → St R V' L m₁ s' → Qc (.int ((q : Nat) : Int) t') s') → wpAny (model prog w) A (call (.ref 160) [.bytes xs.toArray tb, .int (p : Nat) tp, .ref f]) Qc NoE s₁) →
  (∀ s' m' V' q, Post q V' → Loc xs fl m' q → St R V' L m' s' → W s') → W s
end
section
variable {prog : Program} {w : World} {A : Around} {R : Rest} {L : Addr} {xs : List UInt8} {fl : Addr} {W : Shared → Prop} {keys : List Int} {kf : Int → List Int}
theorem tFirst (G : Gd w R) (hA : A.handled = none) (hd : A.depth < 500) (hu : A.units < 5000) (hz : xs.length ≤ 10000) (tm : TMem prog w A R L xs fl W) : TFirst R L xs fl W := by
  intro V m s p fs f df il e e1 n ds c r σ hL hfl hne hfz hF hil hx hn hc k
  obtain ⟨d0, dr, hds⟩ : ∃ d0 dr, ds = d0 :: dr := List.exists_cons_of_ne_nil hn.ne
  have hd0 := hn.all d0 (by rw [hds]; simp)
  refine tm V m s p fs f e d0 (dr ++ c :: r) (fun q V' => q = p + ds.length ∧ ∃ x dx kl, (∀ a o, V a = some o → a ≠ df → V' a = some o) ∧ NewNode V V' x dx kl n ∧ FrameAt V' f df (.ref x) (.ref x) il) σ hL hfl hne hfz (by rw [hx, hds]; rfl) (by omega) (by omega) ?_ ?_
  · intro m₁ s₁ tb tp Qc σ₁ hq
    exact member_first G σ₁ hA hd hu hz hx hn (by omega) (by omega) hF hil fun s' t' V' x dx kl h1 h2 h3 τ => hq s' t' V' _ ⟨rfl, x, dx, kl, h1, h2, h3⟩ τ
  · rintro s' m' V' q ⟨rfl, x, dx, kl, h1, h2, h3⟩ hL' τ
    exact k s' m' V' x dx kl h1 h2 h3 hL' τ
theorem tNext (G : Gd w R) (hA : A.handled = none) (hd : A.depth < 500) (hu : A.units < 5000) (hz : xs.length ≤ 10000) (tm : TMem prog w A R L xs fl W) : TNext R L xs fl W := by
  intro V m s p fs f df il e e1 e2 n ds c r a last nl lkl vs σ hL hfl hne hfz hF hil hN hK hvz hx hn hc k
  refine tm V m s p fs f e 32 (ds ++ c :: r) (fun q V' => q = p + 1 + ds.length ∧ ∃ x dx kl e', (∀ a o, V a = some o → a ≠ df → a ≠ lkl → V' a = some o) ∧ V' lkl = some (listOf (vs ++ [Value.ref x]).toArray e') ∧ NewNode V V' x dx kl n ∧ FrameAt V' f df (.ref a) (.ref x) il) σ hL hfl hne hfz hx (by decide) (by decide) ?_ ?_
  · intro m₁ s₁ tb tp Qc σ₁ hq
    exact member_next G σ₁ hA hd hu hz hx hn (by omega) (by omega) hF hil hN hK (by omega) fun s' t' V' x dx kl e' h1 h2 h3 h4 τ => hq s' t' V' _ ⟨rfl, x, dx, kl, e', h1, h2, h3, h4⟩ τ
  · rintro s' m' V' q ⟨rfl, x, dx, kl, e', h1, h2, h3, h4⟩ hL' τ
    exact k s' m' V' x dx kl e' h1 h2 h3 h4 hL' τ
theorem tBlank (G : Gd w R) (hA : A.handled = none) (hd : A.depth < 500) (hu : A.units < 5000) (hz : xs.length ≤ 10000) (tm : TMem prog w A R L xs fl W) : TBlank R L xs fl W := by
  intro V m s p fs f df il e e1 r a v2 σ hL hfl hne hfz hF hil hx k
  refine tm V m s p fs f e 32 (40 :: r) (fun q V' => q = p + 1 ∧ V' = V) σ hL hfl hne hfz hx (by decide) (by decide) ?_ ?_
  · intro m₁ s₁ tb tp Qc σ₁ hq
    exact member_blank G σ₁ hA hd hu hz hx hF hil fun s' t' τ => hq s' t' V _ ⟨rfl, rfl⟩ τ
  · rintro s' m' V' q ⟨rfl, rfl⟩ hL' τ
    exact k s' m' hL' τ
theorem rd_ts2 (G : Gd w R) (hA : A.handled = none) (hd : A.depth < 500) (hu : A.units < 5000) (hz : xs.length ≤ 10000) (hNum : ∀ n ∈ keys, IsNum n (decs n)) (t0 : TOpen R L xs fl W) (tm : TMem prog w A R L xs fl W) (t4 : TClose R L xs fl W) (ts : List PT) (hOK : ∀ t ∈ ts, OKT keys kf t) : RdTs R L xs fl W ts :=
  rd_ts hNum t0 (tFirst G hA hd hu hz tm) (tNext G hA hd hu hz tm) (tBlank G hA hd hu hz tm) t4 _ ts hOK rfl
end

/-! ## part F16 -/
/-! ## read_threads -/
section
variable {prog : Program} {w : World} {A : Around} {R : Rest} {V : View} {L : Addr} {m : Str → Option Value} {s : Shared} {Q : Value → Shared → Prop}
variable {keys : List Int} {kf : Int → List Int}
theorem read_threads_ok (G : Gd w R) (σ : St R V L m s) (hA : A.handled = none) (hd : A.depth < 400) (hu : A.units < 4000) {xs : List UInt8} {tb : Tok} {ts : List PT} (hNum : ∀ n ∈ keys, IsNum n (decs n)) (hOK : ∀ t ∈ ts, OKT keys kf t) (hx : nats xs = txts ts) (hz : xs.length ≤ 4000)
    (k : ∀ s' V' a ats n, Le V V' → AtVs V' ats → AT.pts ats = ts → V' a = some (listOf (refs ats).toArray n) → St R V' L m s' → Q (.ref a) s') : wpAny (model prog w) A (call (.ref 153) [.bytes xs.toArray tb]) Q NoE s := by
  refine' callDef G σ (f := 153) (binds := [(nm "octets", _)]) ?ho ?hcd ?room ?handled ?bind ?loc ?hco ?hgen ?hk ?hcell ?h
  walk_at "enter"
  intro R' A' L' s₁ G' hA' hd' hu' back σ₁
  simp only [bindsM, List.foldl_cons, List.foldl_nil] at σ₁
  repeat (walk_at "go")
  refine frame_new G' (by assumption) hA' (by walk_at "dp") ?_
  intro s₂ f df il es nn hEs gd gf gi nfd nif nid σ₂
  repeat (walk_at "go")
  rename_i fl _ gfl _ _ t0 _ tp _ gtp _ _ _ _ _ s₆ σ₆
  refine whl_start 0 ?_
  have hxl : xs.length = (txts ts).length := by rw [← nats_len, hx]
  have u1 : ∀ {a : Addr} {o : Obj}, upd (upd (upd V df (dictOf es nn)) f (instObj fFrame df)) il (listOf ([] : List Value).toArray 0) a = some o → upd (upd (upd (upd (upd V df (dictOf es nn)) f (instObj fFrame df)) il (listOf ([] : List Value).toArray 0)) fl (listOf [Value.ref f].toArray 0)) tp (tupOf [Value.ref fl, Value.int 0 t0].toArray 0) a = some o := fun h => upd_keep gtp (upd_keep gfl h)
  have hle0 : Le V (upd (upd (upd (upd (upd V df (dictOf es nn)) f (instObj fFrame df)) il (listOf ([] : List Value).toArray 0)) fl (listOf [Value.ref f].toArray 0)) tp (tupOf [Value.ref fl, Value.int 0 t0].toArray 0)) := fun a o h => u1 (upd_ne (ne_fresh gi h) (upd_ne (ne_fresh gf h) (upd_ne (ne_fresh gd h) h)))
  have hF0 : FrameAt (upd (upd (upd (upd (upd V df (dictOf es nn)) f (instObj fFrame df)) il (listOf ([] : List Value).toArray 0)) fl (listOf [Value.ref f].toArray 0)) tp (tupOf [Value.ref fl, Value.int 0 t0].toArray 0)) f df .none .none il := ⟨u1 (upd_ne nif.symm upd_same), es, nn, u1 (upd_ne nid.symm (upd_ne nfd.symm upd_same)), hEs⟩
  have hil0 := u1 (a := il) upd_same
  have hfl0 : upd (upd (upd (upd (upd V df (dictOf es nn)) f (instObj fFrame df)) il (listOf ([] : List Value).toArray 0)) fl (listOf [Value.ref f].toArray 0)) tp (tupOf [Value.ref fl, Value.int 0 t0].toArray 0) fl = some (listOf ([] ++ [Value.ref f]).toArray 0) := upd_keep gtp upd_same
  have gfl0 : Gone V fl := Gone.of_le (fun a o h => upd_ne (ne_fresh gi h) (upd_ne (ne_fresh gf h) (upd_ne (ne_fresh gd h) h))) gfl
  have nfi : fl ≠ il := Ne.symm (ne_fresh gfl upd_same)
  refine (rd_ts2 (prog := prog) (R := R') (L := L') (xs := xs) (fl := fl) G' hA' (by walk_at "dp") (by walk_at "dp") (by omega) hNum ?t0 ?tm ?t4 ts hOK : RdTs R' L' xs fl _ ts) _ V _ s₆ 0 [] f df .none .none il [] 0 0 [] σ₆ ⟨⟨_, by walk_at "look"⟩, ⟨_, by walk_at "look"⟩, by walk_at "look"⟩ hle0 hF0 hfl0 hil0 gfl0 gi nfi (by simp; omega) (by simp; omega) (by rw [List.drop_zero, hx, List.append_nil]) ?fin
  case fin =>
    intro s' m' V' B' ats e e1 h1 h2 h3 h4 h5 h6 h7 h8 h9 h10
    obtain ⟨⟨t1, hmo⟩, ⟨t2, hma⟩, hmf⟩ := h9
    refine whl_turn (k := 0) PassesOwn.never ?_
    repeat (walk_at "go")
    refine byLen (by assumption) (by omega) ?_
    intro s₇ t₇ σ₇
    repeat (walk_at "go")
    refine WhlIf.no (by simp; omega) ?_
    repeat (walk_at "go")
    refine lsLen (by assumption) h7 (by simp) ?_
    intro s₈ t₈ σ₈
    repeat (walk_at "go")
    refine ifB (fun h => absurd h (by simp)) (fun _ => ?_)
    repeat (walk_at "go")
    refine lsItem (by assumption) h7 (by decide) (by decide) (v := .ref f) (by exact rfl) ?_
    repeat (walk_at "go")
    obtain ⟨nfl, nfd'⟩ := hF0.list_ne hfl0
    obtain ⟨nil1, nil2⟩ := hF0.list_ne hil0
    refine fr_inner G' (by assumption) (hF0.keep (fun o h => h3 _ _ h nfl.symm nil1.symm) (fun o h => h3 _ _ h nfd'.symm nil2.symm)) ?_
    intro s₉ σ₉
    walk_at "ret"
    exact k _ V' il ats e1 (Le.trans h1 h2) (AtVs.mono h2 _ h5) h6 h8 (back _ _ _ σ₉)
  all_goals clear hle0 hF0 hil0 hfl0 σ₆ hEs σ₁ σ k u1
  case t0 =>
    intro V m s p fs f e r σ hL hfl hz hx k
    obtain ⟨⟨t1, hmo⟩, ⟨t2, hma⟩, hmf⟩ := hL
    obtain ⟨b1, b2, b3⟩ := at_get hx
    refine whl_turn (k := 0) PassesOwn.never ?_
    repeat (walk_at "go")
    refine byLen (by assumption) (by omega) ?_
    intro s₁ t₁ σ₁
    repeat (walk_at "go")
    refine WhlIf.yes (by simp; omega) ?_
    repeat (walk_at "go")
    refine lsLast (by assumption) hfl ?_
    repeat (walk_at "go")
    refine byItem (by assumption) (by omega) b1 ?_
    intro s₂ t₂ σ₂
    rw [b2]
    repeat (walk_at "go")
    refine ifB (fun _ => ?_) (fun h => absurd h (by simp))
    repeat (walk_at "go")
    refine frame_new G' (by assumption) hA' (by walk_at "dp") ?_
    intro s₃ f' df' il' es nn hEs gd gf gi nfd nif nid σ₃
    repeat (walk_at "go")
    refine lsAppend (vs := fs ++ [Value.ref f]) (n := e) (by assumption) (by walk_at "view") (by simp; omega) ?_
    intro s₄ n₄ σ₄
    repeat (walk_at "go")
    rename_i s₅ t₅ _ s₆ σ₆
    have ep : (p : Int) + 1 = ((p + 1 : Nat) : Int) := by omega
    rw [ep] at σ₆
    refine k _ _ _ f' df' il' n₄ (fun a o h ha => ?_) upd_same ⟨gf, gd, gi, nif, ?_, 0, ?_⟩ ⟨⟨_, by walk_at "look"⟩, ⟨_, by walk_at "look"⟩, by walk_at "look"⟩ σ₆
    · exact upd_ne ha (upd_ne (ne_fresh gi h) (upd_ne (ne_fresh gf h) (upd_ne (ne_fresh gd h) h)))
    · exact ⟨upd_ne (Ne.symm (ne_fresh gf hfl)) (upd_ne nif.symm upd_same), es, nn, upd_ne (Ne.symm (ne_fresh gd hfl)) (upd_ne nid.symm (upd_ne nfd.symm upd_same)), hEs⟩
    · exact upd_ne (Ne.symm (ne_fresh gi hfl)) upd_same
  case tm =>
    intro V m s p fs f e c r Post σ hL hfl hne hz hx hc0 hc1 hcall k
    obtain ⟨⟨tb1, hmo⟩, ⟨tp1, hma⟩, hmf⟩ := hL
    obtain ⟨b1, b2, b3⟩ := at_get hx
    obtain ⟨f0, fr, hfs⟩ : ∃ f0 fr, fs = f0 :: fr := List.exists_cons_of_ne_nil hne
    have hfsl : 0 < fs.length := by rw [hfs]; simp
    refine whl_turn (k := 0) PassesOwn.never ?_
    repeat (walk_at "go")
    refine byLen (by assumption) (by omega) ?_
    intro s₁ t₁ σ₁
    repeat (walk_at "go")
    refine WhlIf.yes (by simp; omega) ?_
    repeat (walk_at "go")
    refine lsLast (by assumption) hfl ?_
    repeat (walk_at "go")
    refine byItem (by assumption) (by omega) b1 ?_
    intro s₂ t₂ σ₂
    rw [b2]
    repeat (walk_at "go")
    refine ifB (fun h => absurd h (by simp; omega)) (fun _ => ?_)
    repeat (walk_at "go")
    refine lsLen (by assumption) hfl (by simp; omega) ?_
    intro s₃ t₃ σ₃
    repeat (walk_at "go")
    refine ifB (fun h => absurd h (by simp; omega)) (fun _ => ?_)
    repeat (walk_at "go")
    refine byItem (by assumption) (by omega) b1 ?_
    intro s₄ t₄ σ₄
    rw [b2]
    repeat (walk_at "go")
    refine ifB (fun h => absurd h (by simp; omega)) (fun _ => ?_)
    repeat (walk_at "go")
    refine hcall _ _ _ _ _ (by assumption) ?_
    intro s₅ t₅ V₅ q hP σ₅
    repeat (walk_at "go")
    rename_i s₆ σ₆
    exact k _ _ _ q hP ⟨⟨_, by walk_at "look"⟩, ⟨_, by walk_at "look"⟩, by walk_at "look"⟩ σ₆
  case t4 =>
    intro V m s p fs f df il v1 v2 f' df' il' e e1 e2 e3 r a last nl lkl vs us ws σ hL hfl hz hF hil huz hF' hil' hN hK hwz hw1 n1 n2 n3 n4 n5 hx k
    obtain ⟨⟨tb1, hmo⟩, ⟨tp1, hma⟩, hmf⟩ := hL
    obtain ⟨b1, b2, b3⟩ := at_get hx
    obtain ⟨nfl, nfd⟩ := hF.list_ne hfl
    obtain ⟨nkl, nkd⟩ := hF.list_ne hK
    obtain ⟨mfl, mfd⟩ := hF'.list_ne hfl
    refine whl_turn (k := 0) PassesOwn.never ?_
    repeat (walk_at "go")
    refine byLen (by assumption) (by omega) ?_
    intro s₁ t₁ σ₁
    repeat (walk_at "go")
    refine WhlIf.yes (by simp; omega) ?_
    repeat (walk_at "go")
    refine lsLast (by assumption) hfl ?_
    repeat (walk_at "go")
    refine byItem (by assumption) (by omega) b1 ?_
    intro s₂ t₂ σ₂
    rw [b2]
    repeat (walk_at "go")
    refine ifB (fun h => absurd h (by simp)) (fun _ => ?_)
    repeat (walk_at "go")
    refine lsLen (by assumption) hfl (by simp; omega) ?_
    intro s₃ t₃ σ₃
    repeat (walk_at "go")
    refine ifB (fun h => absurd h (by simp; omega)) (fun _ => ?_)
    repeat (walk_at "go")
    refine byItem (by assumption) (by omega) b1 ?_
    intro s₄ t₄ σ₄
    rw [b2]
    repeat (walk_at "go")
    refine ifB (fun _ => ?_) (fun h => absurd h (by simp))
    repeat (walk_at "go")
    refine lsPop (by assumption) hfl (by simp; omega) ?_
    intro s₅ n₅ σ₅
    repeat (walk_at "go")
    refine lsLast (by assumption) upd_same ?_
    repeat (walk_at "go")
    refine fr_inner G' (by assumption) (hF.keep (fun o h => upd_ne nfl.symm h) (fun o h => upd_ne nfd.symm h)) ?_
    intro s₆ σ₆
    repeat (walk_at "go")
    refine fr_closed G' (by assumption) (hF'.keep (fun o h => upd_ne mfl.symm h) (fun o h => upd_ne mfd.symm h)) ?_
    repeat (walk_at "go")
    refine closed_ok G' (by assumption) hA' (by walk_at "dp") (by walk_at "dp") (hF'.keep (fun o h => upd_ne mfl.symm h) (fun o h => upd_ne mfd.symm h)) (nl := nl) (lkl := lkl) ?_ (upd_ne n3.symm hK) (upd_ne n2.symm hil') (by omega) hw1 ?_
    · obtain ⟨dx, es, n, t, g1, g2, g3, g4, g5⟩ := hN
      exact ⟨dx, es, n, t, upd_ne (list_ne_inst hfl g1).symm g1, upd_ne (list_ne_dict hfl g2).symm g2, g3, g4, g5⟩
    intro s₇ e₇ σ₇
    repeat (walk_at "go")
    refine lsAppend (vs := us) (n := e1) (by assumption) (upd_ne n4 (upd_ne n1.symm hil)) (by omega) ?_
    intro s₈ n₈ σ₈
    repeat (walk_at "go")
    rename_i s₉ t₉ _ s₁₀ σ₁₀
    have ep : (p : Int) + 1 = ((p + 1 : Nat) : Int) := by omega
    rw [ep] at σ₁₀
    refine k _ _ _ n₅ n₈ e₇ (fun b o h a1 a2 a3 => upd_ne a2 (upd_ne a3 (upd_ne a1 h))) (upd_ne n1 (upd_ne n3 upd_same)) upd_same (upd_ne n4.symm upd_same) ⟨⟨_, by walk_at "look"⟩, ⟨_, by walk_at "look"⟩, by walk_at "look"⟩ σ₁₀
end


/-! ## part Pure1 -/

/-! ## the law, plainly: rows of numbers and parents make a forest -/
mutual
def PT.preN : PT → List Int
  | .nd n ks => n :: PT.presN ks
def PT.presN : List PT → List Int
  | [] => []
  | t :: ts => PT.preN t ++ PT.presN ts
end
mutual
def insT (n p : Int) : PT → PT
  | .nd m ks => .nd m (insTs n p ks ++ if m = p then [.nd n []] else [])
def insTs (n p : Int) : List PT → List PT
  | [] => []
  | t :: ts => insT n p t :: insTs n p ts
end
theorem insT_num (n p : Int) (t : PT) : (insT n p t).num = t.num := by cases t; rw [insT]; rfl
theorem insTs_map (n p : Int) : ∀ ts : List PT, insTs n p ts = ts.map (insT n p)
  | [] => by rw [insTs]; rfl
  | t :: ts => by rw [insTs, insTs_map n p ts]; rfl
theorem insTs_num (n p : Int) (ts : List PT) : (insTs n p ts).map PT.num = ts.map PT.num := by
  rw [insTs_map, List.map_map]
  exact List.map_congr_left fun t _ => insT_num n p t
theorem pres_append (a b : List PT) : PT.pres (a ++ b) = PT.pres a ++ PT.pres b := by
  induction a with
  | nil => simp [PT.pres]
  | cons t r ih => rw [List.cons_append, PT.pres, PT.pres, ih, List.append_assoc]
mutual
theorem insT_pre (n p : Int) : ∀ t : PT, (insT n p t).pre.Perm (t.pre ++ List.replicate (t.pre.count p) n)
  | .nd m ks => by
    have ih := insTs_pre n p ks
    rw [insT, PT.pre, PT.pre, pres_append, List.count_cons]
    by_cases h : m = p
    · subst h
      rw [if_pos rfl]
      have e : PT.pres [PT.nd n []] = [n] := by simp [PT.pres, PT.pre]
      rw [e]
      simp only [beq_self_eq_true, if_true, List.replicate_succ', List.cons_append]
      refine List.Perm.cons _ ?_
      rw [← List.append_assoc]
      exact List.Perm.append_right _ ih
    · rw [if_neg h]
      have e : (m == p) = false := beq_eq_false_iff_ne.mpr h
      simp only [e, Bool.false_eq_true, if_false, Nat.add_zero, PT.pres, List.append_nil, List.cons_append]
      exact List.Perm.cons _ ih
theorem insTs_pre (n p : Int) : ∀ ts : List PT, (PT.pres (insTs n p ts)).Perm (PT.pres ts ++ List.replicate ((PT.pres ts).count p) n)
  | [] => by simp [insTs, PT.pres]
  | t :: ts => by
    have h1 := insT_pre n p t
    have h2 := insTs_pre n p ts
    rw [insTs, PT.pres, PT.pres, List.count_append, ← List.replicate_append_replicate]
    refine (h1.append h2).trans ?_
    rw [List.append_assoc, List.append_assoc]
    refine List.Perm.append_left _ ?_
    rw [← List.append_assoc, ← List.append_assoc]
    exact List.Perm.append_right _ List.perm_append_comm
end

theorem OKT.mono {keys keys' : List Int} {kf kf' : Int → List Int} (hk : ∀ n ∈ keys, n ∈ keys') (hf : ∀ n ∈ keys, kf' n = kf n) {t : PT} (h : OKT keys kf t) : OKT keys' kf' t := by
  induction h with
  | nd h1 h2 h3 ih => exact .nd (hk _ h1) (by rw [hf _ h1]; exact h2) ih
theorem insT_ok {keys : List Int} {kf kf' : Int → List Int} {n p : Int} (hn : n ∉ keys) (hf : ∀ q ∈ keys, kf' q = kf q ++ if q = p then [n] else []) (hf' : kf' n = []) {t : PT} (h : OKT keys kf t) : OKT (keys ++ [n]) kf' (insT n p t) := by
  induction h with
  | @nd m ks h1 h2 h3 ih =>
    rw [insT]
    refine .nd (List.mem_append_left _ h1) ?_ fun k hk => ?_
    · rw [List.map_append, insTs_num, h2, hf _ h1]
      congr 1
      split <;> rfl
    · rcases List.mem_append.mp hk with h | h
      · rw [insTs_map] at h
        obtain ⟨k', hk', rfl⟩ := List.mem_map.mp h
        exact ih k' hk'
      · split at h
        · rw [List.mem_singleton.mp h]
          exact .nd (by simp) (by rw [hf']; rfl) fun k hk => nomatch hk
        · cases h

/-- the rows that the law's first loop makes -/
inductive Grow : List (Int × Int) → Prop
  | nil : Grow []
  | snoc {rs : List (Int × Int)} {n p : Int} : Grow rs → 0 < n → n < 10 ^ 20 → n ≠ 19 → n ∉ rs.map (·.1) → (p = 0 ∨ p ∈ rs.map (·.1)) → Grow (rs ++ [(n, p)])
def parOf (rs : List (Int × Int)) (n : Int) : Int := (rs.lookup n).getD 0
def kfOf (par : Int → Int) (ns : List Int) (q : Int) : List Int := ns.filter fun i => par i = q

theorem lookupI_none {rs : List (Int × Int)} {a : Int} (h : a ∉ rs.map (·.1)) : rs.lookup a = none := by
  induction rs with
  | nil => rfl
  | cons q r ih =>
    obtain ⟨b, c⟩ := q
    rw [List.map_cons, List.mem_cons, not_or] at h
    rw [List.lookup_cons, beq_eq_false_iff_ne.mpr h.1]
    exact ih h.2
theorem lookupI_mem {rs : List (Int × Int)} (hn : (rs.map (·.1)).Nodup) {a b : Int} (h : (a, b) ∈ rs) : rs.lookup a = some b := by
  induction rs with
  | nil => cases h
  | cons q r ih =>
    obtain ⟨c, d⟩ := q
    rw [List.map_cons, List.nodup_cons] at hn
    rw [List.lookup_cons]
    rcases List.mem_cons.mp h with e | h
    · cases e; simp
    · have : (a == c) = false := beq_eq_false_iff_ne.mpr fun e => hn.1 (List.mem_map.mpr ⟨_, h, e⟩)
      rw [this]; exact ih hn.2 h
theorem Grow.nodup {rs : List (Int × Int)} (g : Grow rs) : (rs.map (·.1)).Nodup := by
  induction g with
  | nil => exact List.nodup_nil
  | snoc _ _ _ _ h _ ih =>
    rw [List.map_append, List.nodup_append]
    exact ⟨ih, by simp, fun a ha b hb e => h (by rw [List.map_singleton, List.mem_singleton] at hb; have e2 := e.trans hb; rw [e2] at ha; exact ha)⟩
theorem Grow.pos {rs : List (Int × Int)} (g : Grow rs) : ∀ n ∈ rs.map (·.1), 0 < n ∧ n < 10 ^ 20 ∧ n ≠ 19 := by
  induction g with
  | nil => intro n h; cases h
  | snoc _ h1 h2 h3 _ _ ih =>
    intro n h
    rw [List.map_append] at h
    rcases List.mem_append.mp h with h | h
    · exact ih n h
    · rw [List.map_singleton, List.mem_singleton] at h
      subst h; exact ⟨h1, h2, h3⟩
theorem Grow.par_mem {rs : List (Int × Int)} (g : Grow rs) {n p : Int} (h : (n, p) ∈ rs) : parOf rs n = p := by
  unfold parOf
  rw [lookupI_mem g.nodup h]; rfl
theorem Grow.par_in {rs : List (Int × Int)} (g : Grow rs) : ∀ n ∈ rs.map (·.1), parOf rs n = 0 ∨ parOf rs n ∈ rs.map (·.1) := by
  intro n hn
  obtain ⟨⟨a, p⟩, hp, rfl⟩ := List.mem_map.mp hn
  rw [g.par_mem hp]
  clear hn
  induction g with
  | nil => cases hp
  | snoc _ _ _ _ _ h ih =>
    rw [List.map_append]
    rcases List.mem_append.mp hp with h1 | h1
    · rcases ih h1 with h2 | h2
      · exact .inl h2
      · exact .inr (List.mem_append_left _ h2)
    · rw [List.mem_singleton] at h1
      cases h1
      rcases h with h2 | h2
      · exact .inl h2
      · exact .inr (List.mem_append_left _ h2)

theorem forest {rs : List (Int × Int)} (g : Grow rs) : ∃ F : List PT, (∀ t ∈ F, OKT (rs.map (·.1)) (kfOf (parOf rs) (rs.map (·.1))) t) ∧ F.map PT.num = kfOf (parOf rs) (rs.map (·.1)) 0 ∧ (PT.pres F).Perm (rs.map (·.1)) := by
  induction g with
  | nil => exact ⟨[], (fun t h => by cases h), rfl, by simp [PT.pres]⟩
  | @snoc rs n p g h1 h2 h3 h4 h5 ih =>
    obtain ⟨F, f1, f2, f3⟩ := ih
    have g' := Grow.snoc g h1 h2 h3 h4 h5
    have hm : (rs ++ [(n, p)]).map (·.1) = rs.map (·.1) ++ [n] := by simp
    have hpn : parOf (rs ++ [(n, p)]) n = p := g'.par_mem (by simp)
    have hpo : ∀ q ∈ rs.map (·.1), parOf (rs ++ [(n, p)]) q = parOf rs q := fun q hq => by
      obtain ⟨⟨a, b⟩, hab, rfl⟩ := List.mem_map.mp hq
      rw [g.par_mem hab, g'.par_mem (List.mem_append_left _ hab)]
    have hn0 : n ≠ 0 := by omega
    have hpn' : p ≠ n := by
      rcases h5 with h | h
      · omega
      · exact fun e => h4 (e ▸ h)
    have hkf : ∀ q, kfOf (parOf (rs ++ [(n, p)])) (rs.map (·.1) ++ [n]) q = kfOf (parOf rs) (rs.map (·.1)) q ++ if q = p then [n] else [] := fun q => by
      unfold kfOf
      rw [List.filter_append]
      congr 1
      · exact List.filter_congr fun i hi => by rw [hpo i hi]
      · simp only [List.filter_cons, List.filter_nil, hpn]
        by_cases hq : q = p
        · simp [hq]
        · have : ¬ p = q := fun e => hq e.symm
          simp [hq, this]
    have hkn : kfOf (parOf (rs ++ [(n, p)])) (rs.map (·.1) ++ [n]) n = [] := by
      rw [hkf, if_neg hpn'.symm, List.append_nil]
      refine List.filter_eq_nil_iff.mpr fun i hi => ?_
      rcases g.par_in i hi with h | h
      · simp only [decide_eq_true_eq]; omega
      · simp only [decide_eq_true_eq]; exact fun e => h4 (e ▸ h)
    rw [hm]
    by_cases hp0 : p = 0
    · refine ⟨F ++ [.nd n []], fun t ht => ?_, ?_, ?_⟩
      · rcases List.mem_append.mp ht with h | h
        · refine OKT.mono (fun q hq => List.mem_append_left _ hq) (fun q hq => ?_) (f1 t h)
          have := (g.pos q hq).1
          rw [hkf, if_neg (by omega), List.append_nil]
        · rw [List.mem_singleton.mp h]
          exact .nd (by simp) (by rw [hkn]; rfl) fun k hk => nomatch hk
      · rw [List.map_append, f2, hkf, if_pos hp0.symm]; rfl
      · rw [pres_append]
        have e : PT.pres [PT.nd n []] = [n] := by simp [PT.pres, PT.pre]
        rw [e]
        exact f3.append_right _
    · have hpm : p ∈ rs.map (·.1) := h5.resolve_left hp0
      refine ⟨insTs n p F, fun t ht => ?_, ?_, ?_⟩
      · rw [insTs_map] at ht
        obtain ⟨t', ht', rfl⟩ := List.mem_map.mp ht
        exact insT_ok h4 (fun q _ => hkf q) hkn (f1 t' ht')
      · rw [insTs_num, f2, hkf, if_neg (fun e => hp0 e.symm), List.append_nil]
      · refine (insTs_pre n p F).trans ?_
        have hc : (PT.pres F).count p = 1 := by
          rw [f3.count_eq]
          have h1 := List.nodup_iff_count.mp g.nodup p
          have h2 := List.count_pos_iff.mpr hpm
          omega
        rw [hc]
        exact f3.append_right _

/-! the tree again, from the numbers in their order -/
section
variable {par : Int → Int} {keys : List Int} {kf : Int → List Int}
theorem par_kids (hkf : ∀ n ∈ keys, ∀ i ∈ kf n, par i = n) {n : Int} {ks : List PT} (h : OKT keys kf (.nd n ks)) : ∀ k ∈ ks, par k.num = n := fun k hk => by
  obtain ⟨h1, h2, h3⟩ := h.inv
  exact hkf n h1 _ (by rw [← h2]; exact List.mem_map_of_mem hk)
mutual
theorem par_pre (hkf : ∀ n ∈ keys, ∀ i ∈ kf n, par i = n) : ∀ (t : PT), OKT keys kf t → ∀ i ∈ t.pre, i = t.num ∨ par i ∈ t.pre
  | .nd n ks, h, i, hi => by
    rw [PT.pre] at hi ⊢
    rcases List.mem_cons.mp hi with h1 | h1
    · exact .inl h1
    · right
      rcases par_pres hkf n ks h.inv.2.2 (par_kids hkf h) i h1 with h2 | h2
      · rw [h2]; exact List.mem_cons_self
      · exact List.mem_cons_of_mem _ h2
theorem par_pres (hkf : ∀ n ∈ keys, ∀ i ∈ kf n, par i = n) (r : Int) : ∀ (ts : List PT), (∀ t ∈ ts, OKT keys kf t) → (∀ t ∈ ts, par t.num = r) → ∀ i ∈ PT.pres ts, par i = r ∨ par i ∈ PT.pres ts
  | [], _, _, i, hi => by rw [PT.pres] at hi; cases hi
  | t :: ts, h, hr, i, hi => by
    rw [PT.pres] at hi ⊢
    rcases List.mem_append.mp hi with h1 | h1
    · rcases par_pre hkf t (h t List.mem_cons_self) i h1 with h2 | h2
      · left; rw [h2]; exact hr t List.mem_cons_self
      · exact .inr (List.mem_append_left _ h2)
    · rcases par_pres hkf r ts (fun t ht => h t (List.mem_cons_of_mem _ ht)) (fun t ht => hr t (List.mem_cons_of_mem _ ht)) i h1 with h2 | h2
      · exact .inl h2
      · exact .inr (List.mem_append_right _ h2)
end
theorem filter_out (hkf : ∀ n ∈ keys, ∀ i ∈ kf n, par i = n) {r q : Int} {ts : List PT} (h : ∀ t ∈ ts, OKT keys kf t) (hr : ∀ t ∈ ts, par t.num = r) (h1 : q ≠ r) (h2 : q ∉ PT.pres ts) : kfOf par (PT.pres ts) q = [] := by
  refine List.filter_eq_nil_iff.mpr fun i hi => ?_
  rcases par_pres hkf r ts h hr i hi with h3 | h3
  · simp only [decide_eq_true_eq]; exact fun e => h1 (e ▸ h3)
  · simp only [decide_eq_true_eq]; exact fun e => h2 (e ▸ h3)
theorem filter_root (hkf : ∀ n ∈ keys, ∀ i ∈ kf n, par i = n) {r : Int} : ∀ {ts : List PT}, (∀ t ∈ ts, OKT keys kf t) → (∀ t ∈ ts, par t.num = r) → r ∉ PT.pres ts → kfOf par (PT.pres ts) r = ts.map PT.num
  | [], _, _, _ => by rw [PT.pres]; rfl
  | .nd m ks :: ts, h, hr, hn => by
    have ih := filter_root (r := r) (ts := ts) hkf (fun t ht => h t (List.mem_cons_of_mem _ ht)) (fun t ht => hr t (List.mem_cons_of_mem _ ht)) (fun hm => hn (by rw [PT.pres]; exact List.mem_append_right _ hm))
    have ho := h _ List.mem_cons_self
    have hm : par m = r := hr _ List.mem_cons_self
    rw [PT.pres, PT.pre] at hn
    have hne : r ≠ m := fun e => hn (by rw [e]; simp)
    have e : kfOf par (PT.pres ks) r = [] := filter_out hkf ho.inv.2.2 (par_kids hkf ho) hne (fun hm => hn (by simp [hm]))
    unfold kfOf at ih e ⊢
    rw [PT.pres, PT.pre, List.cons_append, List.filter_cons, List.filter_append, e, ih]
    simp [hm, PT.num]
mutual
theorem filter_kids (hkf : ∀ n ∈ keys, ∀ i ∈ kf n, par i = n) (r : Int) : ∀ (ts : List PT), (∀ t ∈ ts, OKT keys kf t) → (∀ t ∈ ts, par t.num = r) → r ∉ PT.pres ts → (PT.pres ts).Nodup → ∀ n ∈ PT.pres ts, kfOf par (PT.pres ts) n = kf n
  | [], _, _, _, _, n, hn => by rw [PT.pres] at hn; cases hn
  | .nd m ks :: ts, h, hr, hnr, hnd, n, hn => by
    have hto : ∀ t ∈ ts, OKT keys kf t := fun t ht => h t (List.mem_cons_of_mem _ ht)
    have htr : ∀ t ∈ ts, par t.num = r := fun t ht => hr t (List.mem_cons_of_mem _ ht)
    have ho := h _ List.mem_cons_self
    have hpm : par m = r := hr _ List.mem_cons_self
    have hks := par_kids hkf ho
    obtain ⟨o1, o2, o3⟩ := ho.inv
    rw [PT.pres, PT.pre] at hn hnr hnd
    rw [List.cons_append, List.nodup_cons, List.nodup_append] at hnd
    obtain ⟨d0, d1, d2, d3⟩ := hnd
    rw [List.mem_append, not_or] at d0
    have hrm : r ≠ m := fun e => hnr (by rw [e]; simp)
    have hrk : r ∉ PT.pres ks := fun hm => hnr (by simp [hm])
    have hrt : r ∉ PT.pres ts := fun hm => hnr (by simp [hm])
    have e0 : kfOf par (PT.pres (.nd m ks :: ts)) n = (if par m = n then [m] else []) ++ (kfOf par (PT.pres ks) n ++ kfOf par (PT.pres ts) n) := by
      unfold kfOf
      rw [PT.pres, PT.pre, List.cons_append, List.filter_cons, List.filter_append]
      by_cases hq : par m = n
      · simp [hq]
      · simp [hq]
    rw [e0]
    rcases List.mem_cons.mp (by simpa using hn : n ∈ m :: (PT.pres ks ++ PT.pres ts)) with h1 | h1
    · subst h1
      rw [if_neg (by rw [hpm]; exact hrm), filter_root hkf o3 hks d0.1, filter_out hkf hto htr hrm.symm d0.2, o2]; simp
    · rcases List.mem_append.mp h1 with h2 | h2
      · have hnt : n ∉ PT.pres ts := fun h => d3 _ h2 _ h rfl
        have hnr' : n ≠ r := fun e => hrk (e ▸ h2)
        rw [if_neg (by rw [hpm]; exact hnr'.symm), filter_kids hkf m ks o3 hks d0.1 d1 n h2, filter_out hkf hto htr hnr' hnt]; simp
      · have hnk : n ∉ PT.pres ks := fun h => d3 _ h _ h2 rfl
        have hnr' : n ≠ r := fun e => hrt (e ▸ h2)
        have hnm : n ≠ m := fun e => d0.2 (e ▸ h2)
        rw [if_neg (by rw [hpm]; exact hnr'.symm), filter_out hkf o3 hks hnm hnk, filter_kids hkf r ts hto htr hrt d2 n h2]; simp
end
end

/-! ## part Pure2 -/

/-! ## told nodes and plain trees -/
mutual
theorem pre_pt : ∀ t : AT, (AT.pre t).map AT.num = t.pt.pre
  | .nd x n ks => by rw [AT.pre, AT.pt, PT.pre, List.map_cons, pres_pts ks]; rfl
theorem pres_pts : ∀ ts : List AT, (AT.pres ts).map AT.num = PT.pres (AT.pts ts)
  | [] => by rw [AT.pres, AT.pts, PT.pres]; rfl
  | t :: ts => by rw [AT.pres, AT.pts, PT.pres, List.map_append, pre_pt t, pres_pts ts]
end
theorem pt_num (t : AT) : t.pt.num = t.num := by cases t; rw [AT.pt]; rfl
section
variable {par : Int → Int} {keys : List Int} {kf : Int → List Int}
mutual
theorem kidPairs_par (hkf : ∀ n ∈ keys, ∀ i ∈ kf n, par i = n) : ∀ t : AT, OKT keys kf t.pt → ∀ q ∈ kidPairs (AT.pre t), par q.1 = q.2
  | .nd x n ks, h, q, hq => by
    rw [AT.pt] at h
    have hp := par_kids hkf h
    rw [AT.pre] at hq
    rcases List.mem_append.mp (show q ∈ (ks.map fun k => (k.num, n)) ++ kidPairs (AT.pres ks) from hq) with h1 | h1
    · obtain ⟨k, hk, rfl⟩ := List.mem_map.mp h1
      have := hp k.pt (by rw [AT.pts_map]; exact List.mem_map_of_mem hk)
      rw [pt_num] at this
      exact this
    · exact kidPairs_pars hkf ks h.inv.2.2 q h1
theorem kidPairs_pars (hkf : ∀ n ∈ keys, ∀ i ∈ kf n, par i = n) : ∀ ts : List AT, (∀ t ∈ AT.pts ts, OKT keys kf t) → ∀ q ∈ kidPairs (AT.pres ts), par q.1 = q.2
  | [], _, q, hq => by rw [AT.pres] at hq; cases hq
  | t :: ts, h, q, hq => by
    rw [AT.pres, kidPairs_append] at hq
    rw [AT.pts] at h
    rcases List.mem_append.mp hq with h1 | h1
    · exact kidPairs_par hkf t (h _ List.mem_cons_self) q h1
    · exact kidPairs_pars hkf ts (fun u hu => h u (List.mem_cons_of_mem _ hu)) q h1
end
theorem parPairs_par (hkf : ∀ n ∈ keys, ∀ i ∈ kf n, par i = n) {ts : List AT} (h : ∀ t ∈ AT.pts ts, OKT keys kf t) (hr : ∀ t ∈ AT.pts ts, par t.num = 0) : ∀ q ∈ parPairs ts, par q.1 = q.2 := fun q hq => by
  unfold parPairs at hq
  rcases List.mem_append.mp hq with h1 | h1
  · obtain ⟨t, ht, rfl⟩ := List.mem_map.mp h1
    have := hr t.pt (by rw [AT.pts_map]; exact List.mem_map_of_mem ht)
    rw [pt_num] at this
    exact this
  · exact kidPairs_pars hkf ts h q h1
theorem parPairs_has (hkf : ∀ n ∈ keys, ∀ i ∈ kf n, par i = n) {ts : List AT} (h : ∀ t ∈ AT.pts ts, OKT keys kf t) (hr : ∀ t ∈ AT.pts ts, par t.num = 0) {n : Int} (hn : n ∈ PT.pres (AT.pts ts)) : (n, par n) ∈ parPairs ts := by
  rw [← pres_pts] at hn
  have := (parPairs_keys ts).mem_iff.mpr hn
  obtain ⟨⟨a, p⟩, hq, rfl⟩ := List.mem_map.mp this
  have e := parPairs_par hkf h hr _ hq
  rw [e]; exact hq

/-! the top of a number -/
mutual
theorem top_pre (hkf : ∀ n ∈ keys, ∀ i ∈ kf n, par i = n) (h0 : ∀ n ∈ keys, n ≠ 0) {r : Int} : ∀ (t : PT), OKT keys kf t → TopOf par t.num r → ∀ i ∈ t.pre, TopOf par i r
  | .nd n ks, h, ht, i, hi => by
    rw [PT.pre] at hi
    rcases List.mem_cons.mp hi with h1 | h1
    · subst h1; exact ht
    · exact top_pres hkf h0 ks h.inv.2.2 (fun k hk => by
        have hp := par_kids hkf h k hk
        refine .up (by rw [hp]; exact h0 _ h.inv.1) (by rw [hp]; exact ht)) i h1
theorem top_pres (hkf : ∀ n ∈ keys, ∀ i ∈ kf n, par i = n) (h0 : ∀ n ∈ keys, n ≠ 0) {r : Int} : ∀ (ts : List PT), (∀ t ∈ ts, OKT keys kf t) → (∀ t ∈ ts, TopOf par t.num r) → ∀ i ∈ PT.pres ts, TopOf par i r
  | [], _, _, i, hi => by rw [PT.pres] at hi; cases hi
  | t :: ts, h, ht, i, hi => by
    rw [PT.pres] at hi
    rcases List.mem_append.mp hi with h1 | h1
    · exact top_pre hkf h0 t (h t List.mem_cons_self) (ht t List.mem_cons_self) i h1
    · exact top_pres hkf h0 ts (fun u hu => h u (List.mem_cons_of_mem _ hu)) (fun u hu => ht u (List.mem_cons_of_mem _ hu)) i h1
end
theorem hasNum_iff {i : Int} {t : AT} (h0 : 0 < i) : hasNum i t = true ↔ i ∈ t.pt.pre := by
  unfold hasNum posNums
  rw [pres_single, pre_pt, List.any_eq_true]
  constructor
  · rintro ⟨x, hx, e⟩
    have : x = i := by simpa using e
    subst this
    exact (List.mem_filter.mp hx).1
  · intro h
    exact ⟨i, List.mem_filter.mpr ⟨h, by simpa using h0⟩, by simp⟩
theorem mem_pts {i : Int} : ∀ {ts : List AT}, i ∈ PT.pres (AT.pts ts) ↔ ∃ t ∈ ts, i ∈ t.pt.pre
  | [] => by rw [AT.pts, PT.pres]; simp
  | t :: ts => by
    rw [AT.pts, PT.pres, List.mem_append, mem_pts (ts := ts)]
    simp
theorem found_some {ts : List AT} {i : Int} (h0 : 0 < i) (h : i ∈ PT.pres (AT.pts ts)) : ∃ t ∈ ts, foundOf i ts = .ref t.addr ∧ i ∈ t.pt.pre := by
  obtain ⟨t, ht, hi⟩ := mem_pts.mp h
  unfold foundOf
  cases q : ts.find? (hasNum i) with
  | none =>
    rw [List.find?_eq_none] at q
    exact absurd ((hasNum_iff h0).mpr hi) (q t ht)
  | some u =>
    exact ⟨u, List.mem_of_find?_eq_some q, rfl, (hasNum_iff h0).mp (List.find?_some q)⟩
theorem found_none {ts : List AT} {i : Int} (h : 0 < i → i ∉ PT.pres (AT.pts ts)) : foundOf i ts = .none := by
  unfold foundOf
  cases q : ts.find? (hasNum i) with
  | none => rfl
  | some u =>
    have h1 := List.find?_some q
    have h0 : 0 < i := by
      unfold hasNum posNums at h1
      rw [List.any_eq_true] at h1
      obtain ⟨x, hx, e⟩ := h1
      have : x = i := by simpa using e
      subst this
      simpa using (List.mem_filter.mp hx).2
    exact absurd (mem_pts.mpr ⟨u, List.mem_of_find?_eq_some q, (hasNum_iff h0).mp h1⟩) (h h0)
end

/-! ## the words of a text -/
def splitN (c : Nat) : List Nat → List (List Nat)
  | [] => [[]]
  | a :: r => if a = c then [] :: splitN c r else match splitN c r with
    | [] => [[a]]
    | p :: ps => (a :: p) :: ps
def joinN (z : List Nat) : List (List Nat) → List Nat
  | [] => []
  | [p] => p
  | p :: q :: r => p ++ z ++ joinN z (q :: r)
theorem splitN_ne (c : Nat) : ∀ l, splitN c l ≠ []
  | [] => by simp [splitN]
  | a :: r => by
    rw [splitN]
    split
    · simp
    · split <;> simp
theorem splitN_free {c : Nat} : ∀ {p : List Nat}, c ∉ p → splitN c p = [p]
  | [], _ => rfl
  | a :: r, h => by
    rw [List.mem_cons, not_or] at h
    rw [splitN, if_neg (fun e => h.1 e.symm), splitN_free h.2]
theorem splitN_sep {c : Nat} : ∀ {p l : List Nat}, c ∉ p → splitN c (p ++ c :: l) = p :: splitN c l
  | [], l, _ => by rw [List.nil_append, splitN, if_pos rfl]
  | a :: r, l, h => by
    rw [List.mem_cons, not_or] at h
    rw [List.cons_append, splitN, if_neg (fun e => h.1 e.symm), splitN_sep h.2]
theorem splitN_join {c : Nat} : ∀ {ps : List (List Nat)}, ps ≠ [] → (∀ p ∈ ps, c ∉ p) → splitN c (joinN [c] ps) = ps
  | [], h, _ => absurd rfl h
  | [p], _, h => by rw [joinN]; exact splitN_free (h p (by simp))
  | p :: q :: r, _, h => by
    rw [joinN, List.append_assoc, List.singleton_append, splitN_sep (h p (by simp)), splitN_join (by simp) fun u hu => h u (by simp at hu ⊢; exact .inr hu)]
theorem join_list (z : List Nat) : ∀ ps : List Str, (Str.join (S z) ps).cps.toList = joinN z (ps.map (·.cps.toList))
  | [] => rfl
  | [p] => rfl
  | p :: q :: r => by
    have e : Str.join (S z) (p :: q :: r) = p ++ S z ++ Str.join (S z) (q :: r) := rfl
    rw [e, List.map_cons, List.map_cons, joinN]
    have h : ∀ a b : Str, (a ++ b).cps.toList = a.cps.toList ++ b.cps.toList := fun a b => by
      show (a.cps ++ b.cps).toList = _
      rw [Array.toList_append]
    rw [h, h, join_list z (q :: r)]
    rfl
theorem split_list (x : List Nat) (c : Nat) : (Txt.split (S x) (S [c])).map (·.cps.toList) = splitN c x := by
  have h1 := StrLaws.join_split (S x) (S [c])
  have h2 := join_list [c] (Txt.split (S x) (S [c]))
  rw [h1] at h2
  have h3 : (Txt.split (S x) (S [c])) ≠ [] := fun e => by have := split_pos (S x) (S [c]); rw [e] at this; exact absurd this (by decide)
  have h4 := splitN_join (c := c) (ps := (Txt.split (S x) (S [c])).map (·.cps.toList)) (by simpa using h3) (fun p hp => by
    obtain ⟨q, hq, rfl⟩ := List.mem_map.mp hp
    exact StrLaws.split_free (S x) c q hq)
  rw [← h2] at h4
  exact h4.symm
def turn (c d a : Nat) : Nat := if a = c then d else a
theorem joinN_cons (d a : Nat) : ∀ {ps : List (List Nat)} {p : List Nat}, joinN [d] ((a :: p) :: ps) = a :: joinN [d] (p :: ps)
  | [], _ => rfl
  | _ :: _, _ => rfl
theorem join_splitN (c d : Nat) : ∀ l : List Nat, joinN [d] (splitN c l) = l.map (turn c d)
  | [] => rfl
  | a :: r => by
    rw [splitN, List.map_cons]
    by_cases h : a = c
    · rw [if_pos h]
      have e : turn c d a = d := if_pos h
      rw [e, ← join_splitN c d r]
      cases q : splitN c r with
      | nil => exact absurd q (splitN_ne c r)
      | cons p ps => rfl
    · rw [if_neg h]
      have e : turn c d a = a := if_neg h
      rw [e, ← join_splitN c d r]
      cases q : splitN c r with
      | nil => exact absurd q (splitN_ne c r)
      | cons p ps => exact joinN_cons d a
theorem replace_list (x : List Nat) (c d : Nat) : Txt.replace (S x) (S [c]) (S [d]) = S (x.map (turn c d)) := by
  have h1 := StrLaws.replace_one (S x) (S [d]) c
  have h2 : Txt.replace (S x) (S [c]) (S [d]) = S (Txt.replace (S x) (S [c]) (S [d])).cps.toList := S_eta _
  rw [h2]
  congr 1
  have h3 : Txt.replace (S x) (S [c]) (S [d]) = Str.join (S [d]) (Txt.split (S x) (S [c])) := h1
  rw [h3, join_list, split_list, join_splitN]

/-- the words between blanks -/
def wordsN (l : List Nat) : List (List Nat) := (splitN 32 l).filter fun w => !w.isEmpty
theorem wordsN_sep {p l : List Nat} (h : 32 ∉ p) (hn : p ≠ []) : wordsN (p ++ 32 :: l) = p :: wordsN l := by
  unfold wordsN
  rw [splitN_sep h, List.filter_cons]
  cases p with
  | nil => exact absurd rfl hn
  | cons a r => rfl
theorem wordsN_blank {l : List Nat} : wordsN (32 :: l) = wordsN l := by
  unfold wordsN
  rw [splitN, if_pos rfl]
  rfl
theorem wordsN_free {p : List Nat} (h : 32 ∉ p) (hn : p ≠ []) : wordsN p = [p] := by
  unfold wordsN
  rw [splitN_free h]
  cases p with
  | nil => exact absurd rfl hn
  | cons a r => rfl
theorem splitN_app {c : Nat} : ∀ {a b : List Nat}, splitN c (a ++ c :: b) = splitN c a ++ splitN c b
  | [], b => by
    show splitN c (c :: b) = [] :: splitN c b
    rw [splitN, if_pos rfl]
  | x :: a, b => by
    rw [List.cons_append, splitN, splitN, splitN_app]
    by_cases h : x = c
    · rw [if_pos h, if_pos h]; rfl
    · rw [if_neg h, if_neg h]
      cases q : splitN c a with
      | nil => exact absurd q (splitN_ne c a)
      | cons p ps => rfl
theorem wordsN_app {a b : List Nat} : wordsN (a ++ 32 :: b) = wordsN a ++ wordsN b := by
  unfold wordsN
  rw [splitN_app, List.filter_append]
def flat (l : List Nat) : List Nat := (l.map (turn 40 32)).map (turn 41 32)
theorem flat_app (a b : List Nat) : flat (a ++ b) = flat a ++ flat b := by simp [flat]
theorem flat_digits {ds : List Nat} (h : NumText.AllDigits ds) : flat ds = ds := by
  unfold flat
  rw [List.map_map]
  refine (List.map_congr_left (g := id) fun c hc => ?_).trans (List.map_id _)
  have := h c hc
  show turn 41 32 (turn 40 32 c) = c
  unfold turn
  split
  · omega
  · split <;> omega
section
variable {keys : List Int} {kf : Int → List Int}
theorem digits_free {ds : List Nat} (h : NumText.AllDigits ds) : 32 ∉ ds := fun hm => by have := h 32 hm; omega
mutual
theorem words_txt (hN : ∀ n ∈ keys, IsNum n (decs n)) : ∀ t : PT, OKT keys kf t → wordsN (flat (txt t)) = t.pre.map decs
  | .nd n ks, h => by
    obtain ⟨h1, h2, h3⟩ := h.inv
    have hn := hN n h1
    have hr := words_rest hN ks h3
    rw [txt_nd, flat_app, flat_digits hn.all, PT.pre, List.map_cons]
    rcases hr with ⟨e1, e2⟩ | ⟨l, e1, e2⟩
    · rw [e1, e2]
      simpa [flat] using wordsN_free (digits_free hn.all) hn.ne
    · have e3 : flat (32 :: l) = 32 :: flat l := rfl
      rw [e1, e3, wordsN_sep (digits_free hn.all) hn.ne, e2]
theorem words_rest (hN : ∀ n ∈ keys, IsNum n (decs n)) : ∀ ks : List PT, (∀ k ∈ ks, OKT keys kf k) → (rest ks = [] ∧ (PT.pres ks).map decs = []) ∨ ∃ l, rest ks = 32 :: l ∧ wordsN (flat l) = (PT.pres ks).map decs
  | [], _ => .inl ⟨rfl, by rw [PT.pres]; rfl⟩
  | [k], h => .inr ⟨txt k, by simp [rest, chain], by rw [words_txt hN k (h k (by simp)), PT.pres, PT.pres, List.append_nil]⟩
  | k :: k2 :: r, h => .inr ⟨txts (k :: k2 :: r), by simp [rest], words_txts hN (k :: k2 :: r) h⟩
theorem words_txts (hN : ∀ n ∈ keys, IsNum n (decs n)) : ∀ ks : List PT, (∀ k ∈ ks, OKT keys kf k) → wordsN (flat (txts ks)) = (PT.pres ks).map decs
  | [], _ => by rw [txts, PT.pres]; rfl
  | k :: r, h => by
    have h1 := words_txt hN k (h k (by simp))
    have h2 := words_txts hN r fun q hq => h q (by simp [hq])
    have e : flat (txts (k :: r)) = 32 :: (flat (txt k) ++ 32 :: flat (txts r)) := by
      rw [txts, flat_app]
      show 32 :: flat (txt k ++ [41]) ++ _ = _
      rw [flat_app, List.cons_append, List.append_assoc]; rfl
    rw [e, wordsN_blank, wordsN_app, h1, h2, PT.pres, List.map_append]
end
end

/-! ## part Rul6 -/

section
variable {prog : Program} {w : World} {A : Around} {E : Value → Shared → Prop} {R : Rest} {V : View} {L l : Addr} {m : Str → Option Value} {s : Shared} {t u v : Tok} {Q : Value → Shared → Prop}
theorem wpTk {α : Type} {M : Model} {tr : Sem α} {Q : α → Shared → Prop} {n : Nat} (hn : n ≤ s.toks) (h : wpAny M A tr (fun a s' => n ≤ s'.toks → Q a s') NoE s) : wpAny M A tr Q NoE s :=
  wpAny_mono (wpAny_toks_of hn h) (fun _ _ x => x.2 x.1) (fun _ _ x => x.2)

/-! ## nested tuples compared -/
mutual
theorem eqTup {V : View} {s : Shared} (hs : ∀ a o, V a = some o → s.heap.get? a = some o) : ∀ (t : PT) (A : Around) (v v' : Value), TupT V v t → TupT V v' t → A.units + 2 * t.pre.length < 9000 → SeqAt.EqAt A s v v' true
  | .nd n ks, A, v, v', h, h', hu => by
    unfold TupT at h h'
    obtain ⟨x, t, b, n1, n2, vs, rfl, h1, h2, h3⟩ := h
    obtain ⟨x', t', b', n1', n2', vs', rfl, h1', h2', h3'⟩ := h'
    rw [PT.pre, List.length_cons] at hu
    by_cases hx : x = x'
    · subst hx; exact SeqAt.EqAt.same _
    · have q := SeqAt.RcAt.tuples (A := A) (s := s) (l := x) (b := x') (e := fun _ => true) ⟨_, hs _ _ h1, rfl, n1, rfl⟩ ⟨_, hs _ _ h1', rfl, n1', rfl⟩ (Nat.lt_trans (show A.units < 9000 by omega) (by decide)) (fun j j1 j2 => by
        match j, j1, j2 with
        | 0, _, _ =>
          have := SeqAt.EqAt.int_int (A := A.in1) (s := s) n t n t'
          rwa [beq_self_eq_true] at this
        | 1, _, _ =>
          show SeqAt.EqAt A.in1 s (.ref b) (.ref b') true
          by_cases hb : b = b'
          · subst hb; exact SeqAt.EqAt.same _
          · have hu1 : A.in1.units = A.units + 1 := rfl
            have hu2 : A.in1.in1.units = A.units + 2 := rfl
            have hl : vs.length = vs'.length := by rw [h3.len, h3'.len]
            have q := SeqAt.RcAt.tuples (A := A.in1) (s := s) (l := b) (b := b') (e := fun _ => true) ⟨_, hs _ _ h2, rfl, n2, rfl⟩ ⟨_, hs _ _ h2', rfl, n2', rfl⟩ (Nat.lt_trans (show A.in1.units < 9000 by omega) (by decide)) (fun j j1 j2 => by
              have := eqTups hs ks A.in1.in1 vs vs' h3 h3' (by omega) j (by simpa using j1) (by simpa using j2)
              simpa using this)
            have e : ((List.range (min vs.toArray.size vs'.toArray.size)).all (fun _ => true) && vs.toArray.size == vs'.toArray.size) = true := by simp [hl]
            rw [e] at q
            exact SeqAt.EqAt.of_refs hb q)
      have e : ((List.range (min ([Value.int n t, .ref b].toArray).size ([Value.int n t', .ref b'].toArray).size)).all (fun _ => true) && ([Value.int n t, .ref b].toArray).size == ([Value.int n t', .ref b'].toArray).size) = true := by simp
      exact SeqAt.EqAt.of_refs hx (e ▸ q)
theorem eqTups {V : View} {s : Shared} (hs : ∀ a o, V a = some o → s.heap.get? a = some o) : ∀ (ts : List PT) (A : Around) (vs vs' : List Value), TupTs V vs ts → TupTs V vs' ts → A.units + 2 * (PT.pres ts).length < 9000 → ∀ (j : Nat) (h1 : j < vs.length) (h2 : j < vs'.length), SeqAt.EqAt A s vs[j] vs'[j] true
  | [], A, vs, vs', h, h', hu, j, h1, h2 => by
    unfold TupTs at h; subst h; exact absurd h1 (Nat.not_lt_zero _)
  | t :: ts, A, vs, vs', h, h', hu, j, h1, h2 => by
    unfold TupTs at h h'
    obtain ⟨v, r, rfl, a1, a2⟩ := h
    obtain ⟨v', r', rfl, b1, b2⟩ := h'
    rw [PT.pres, List.length_append] at hu
    match j, h1, h2 with
    | 0, _, _ => exact eqTup hs t A v v' a1 b1 (by omega)
    | j + 1, h1, h2 => exact eqTups hs ts A r r' a2 b2 (by omega) j (by simpa using h1) (by simpa using h2)
end

theorem lsNeTup {V : View} {l b : Addr} {vs vs' : List Value} {n n' : Nat} {ts : List PT} (σ : St R V L m s) (hl : V l = some (listOf vs.toArray n)) (hb : V b = some (listOf vs'.toArray n')) (h1 : TupTs V vs ts) (h2 : TupTs V vs' ts) (hz : (PT.pres ts).length ≤ 100) (hu : A.units < 8000) (h : Q (.bool false) s) :
    wpAny (model prog w) A (compareOp .NotEq (.ref l) (.ref b)) Q E s := by
  have hlen : vs.length = vs'.length := by rw [h1.len, h2.len]
  have hu1 : A.in1.units = A.units + 1 := rfl
  have q := SeqAt.RcNeAt.lists (A := A) (e := fun _ => true) (σ.isList hl) (σ.isList hb) (by simpa using hlen) (Nat.lt_trans (show A.units < 9000 by omega) (by decide)) (fun j j1 j2 => by
    have := eqTups σ.has ts A.in1 vs vs' h1 h2 (by omega) j (by simpa using j1) (by simpa using j2)
    simpa using this)
  have e : (!(List.range vs.toArray.size).all (fun _ => true)) = false := by simp
  rw [e] at q
  exact cmp_ofNotEq (q prog w E Q h)
theorem lsNeInts {l b : Addr} {vs vs' : List Value} {n n' : Nat} {ns : List Int} (σ : St R V L m s) (hl : V l = some (listOf vs.toArray n)) (hb : V b = some (listOf vs'.toArray n')) (h1 : IntsAre vs ns) (h2 : IntsAre vs' ns) (hu : A.units < 8000) (h : Q (.bool false) s) :
    wpAny (model prog w) A (compareOp .NotEq (.ref l) (.ref b)) Q E s := by
  have hlen : vs.length = vs'.length := by rw [h1.length, h2.length]
  have q := SeqAt.RcNeAt.lists (A := A) (s := s) (e := fun _ => true) (σ.isList hl) (σ.isList hb) (by simpa using hlen) (Nat.lt_trans (show A.units < 9000 by omega) (by decide)) (fun j j1 j2 => by
    have j1' : j < vs.length := by simpa using j1
    have j2' : j < vs'.length := by simpa using j2
    obtain ⟨i1, t1, e1, g1⟩ := h1.at j _ (List.getElem?_eq_getElem j1')
    obtain ⟨i2, t2, e2, g2⟩ := h2.at j _ (List.getElem?_eq_getElem j2')
    rw [g1] at g2
    cases g2
    have := SeqAt.EqAt.int_int (A := A.in1) (s := s) i1 t1 i1 t2
    rw [beq_self_eq_true, ← e1, ← e2] at this
    simpa using this)
  have e : (!(List.range vs.toArray.size).all (fun _ => true)) = false := by simp
  rw [e] at q
  exact cmp_ofNotEq (q prog w E Q h)

/-! ## numbers -/
theorem aMul {a b : Int} (σ : St R V L m s) (hm : IntMulOk a b) (h : ∀ s' t, St R V L m s' → Q (.int (a * b) t) s') : wpAny (model prog w) A (binaryOp .Mult (.int a t) (.int b u)) Q E s := PyProof.Rows.mul_int (h _ _ σ.tok) hm
theorem aFdiv11 {a : Int} (σ : St R V L m s) (h : ∀ s' t, St R V L m s' → Q (.int (a.fdiv 11) t) s') : wpAny (model prog w) A (binaryOp .FloorDiv (.int a t) (.int 11 u)) Q E s :=
  PyProof.Rows.floordiv_int (by decide) (h _ _ σ.tok) (Or.inl rfl)
theorem aPow15 (σ : St R V L m s) (h : ∀ s' t, St R V L m s' → Q (.int (10 ^ 15) t) s') : wpAny (model prog w) A (binaryOp .Pow (.int 10 t) (.int 15 u)) Q E s :=
  PySem.AutoIntOps.pow_4 (by decide) (by decide) (by decide) (by decide) (by decide) (h _ _ σ.tok)
theorem aAbs {a : Int} (σ : St R V L m s) (h : ∀ s' t, St R V L m s' → Q (.int (if a < 0 then -a else a) t) s') : wpAny (model prog w) A (call (.builtin "abs") [.int a t]) Q E s :=
  PyProof.Rows.call_abs_int fun _ _ => h _ _ σ.tok
theorem aInt {a : Int} (h : Q (.int a t) s) : wpAny (model prog w) A (call (.type "int") [.int a t]) Q E s := call_int_int h

/-! ## texts, bytes -/
theorem sNe {x y : Str} (h : Q (.bool (x != y)) s) : wpAny (model prog w) A (compareOp .NotEq (.str x t) (.str y u)) Q E s := PyProof.Rows.ne_str h
theorem sOrd {c : Nat} (σ : St R V L m s) (h : ∀ s' t', St R V L m s' → Q (.int (c : Nat) t') s') : wpAny (model prog w) A (call (.builtin "ord") [.str ⟨#[c]⟩ t]) Q E s := P.ord_of_char (h _ _ σ.tok)
theorem sInt {ds : List Nat} {n : Int} (σ : St R V L m s) (hn : IsNum n ds) (h : ∀ s' t', St R V L m s' → Q (.int n t') s') : wpAny (model prog w) A (call (.type "int") [.str (S ds) t]) Q E s := by
  refine KIN.call_text (n := n) ?_ (by rw [S_len]; exact Nat.le_trans hn.len (by decide)) (h _ _ σ.tok)
  have := PySem.intText_digits (x := S ds) hn.all hn.ne (by rw [S_len]; exact Nat.le_trans hn.len (by decide))
  rw [S_list, hn.val] at this
  exact this
theorem sRepl {xs : List Nat} {c d : Nat} (σ : St R V L m s) (hu : u ≠ 0) (hv : v ≠ 0) (huv : u ≠ v) (hcd : c ≠ d) (hz : xs.length ≤ 100000) {x y z : Str} (hx : x = S xs) (hy : y = S [c]) (hd : z = S [d]) (h : ∀ s' t', St R V L m s' → Q (.str (S (xs.map (turn c d))) t') s') :
    wpAny (model prog w) A (call (.builtin "str.replace") [.str x t, .str y u, .str z v]) Q E s := by
  subst hx hy hd
  refine SC.replace hu hv huv (beq_eq_false_iff_ne.mpr fun e => ?_) ?_ fun t' k => ?_
  · have e2 : (S [c]).cps.toList = (S [d]).cps.toList := by rw [e]
    rw [S_list, S_list] at e2
    exact hcd (List.cons.inj e2).1
  · rw [S_len, S_len]; simp only [List.length_singleton]; omega
  · rw [replace_list]; exact h _ _ σ.tok
theorem sSplit {xs : List Nat} {x y : Str} (σ : St R V L m s) (hx : x = S xs) (hy : y = S [32]) (hz : xs.length ≤ 100000)
    (h : ∀ s' D vs ws, Gone V D → ws.map (·.cps.toList) = splitN 32 xs → StrsAre vs ws → vs.length ≤ xs.length + 2 → St R (upd V D (listOf vs.toArray 0)) L m s' → Q (.ref D) s') : wpAny (model prog w) A (call (.builtin "str.split") [.str x t, .str y u]) Q E s := by
  subst hx hy
  refine KSpl.split1 σ.fr σ.news (by decide) (fun D l h' k e a F N hlt => ?_) (by rw [S_len, sizeLine_eq]; omega)
  have hne : D ≠ L := by
    exact (N _ List.mem_cons_self).2.1
  obtain ⟨g, σ'⟩ := σ.new1 (tk := k) F N hlt hne
  refine h _ D _ _ g ?_ a ?_ σ'
  · rw [e, split_list]
  · have := len_le_of_split e
    rw [S_len] at this
    simpa [strValues] using this

theorem byNew {l : Addr} {vs : List Value} {n : Nat} {cs : List Nat} (hA : A.handled = none) (σ : St R V L m s) (hl : V l = some (listOf vs.toArray n)) (hI : IntsAre vs (cs.map fun c : Nat => (c : Int))) (hc : ∀ c ∈ cs, c < 256) (hz : cs.length ≤ 100000)
    (h : ∀ s' t', St R V L m s' → Q (.bytes (cs.map (·.toUInt8)).toArray t') s') : wpAny (model prog w) A (call (.type "bytes") [.ref l]) Q E s := by
  have hlen : vs.length = cs.length := by rw [hI.length, List.length_map]
  refine call_bytes_ints (σ.isList hl) hI (fun n hn => ?_) (by rw [sizeLine_eq]; omega) hA fun h' t' k hk => ?_
  · obtain ⟨c, hc', rfl⟩ := List.mem_map.mp hn
    have := hc c hc'
    omega
  · have e : byteArr (cs.map fun c : Nat => (c : Int)) = (cs.map (·.toUInt8)).toArray := by
      unfold byteArr
      rw [List.map_map]
      congr 1
    rw [e]
    exact h _ t' (σ.keeps hk)
theorem nats_of {cs : List Nat} (hc : ∀ c ∈ cs, c < 256) : nats (cs.map (·.toUInt8)) = cs := by
  unfold nats
  rw [List.map_map]
  refine (List.map_congr_left (g := id) fun c h => ?_).trans (List.map_id _)
  have := hc c h
  show (c.toUInt8).toNat = c
  rw [Nat.toUInt8, UInt8.toNat_ofNat']
  exact Nat.mod_eq_of_lt this

/-! ## the script -/
theorem scCut {l : Addr} {items : List Value} {value slice : PySem.Expr} {a : Addr} {k : Nat} {ti : Tok} {ops : List Value} (σ : St R V L m s) (hl : s.heap.IsList l items.toArray) (ha : V a = some (slOf .none (.int (k : Nat) ti) .none)) (hz : items.length ≤ 1000)
    (h : ∀ s' D, Gone V D → St R (upd V D (listOf (items.take k).toArray 0)) L m s' → Q (.ref D) s')
    (hs : subscripted slice false (.ref l) (.ref a) = operate ops (getItem (.ref l) (.ref a)) := by with_unfolding_all rfl) :
    wpAny (model prog w) A (subscriptTail value slice (.ref l) (.ref a)) Q E s := by
  refine tail_any hl.typeIs F.slot_list_getitem.lookup (wpAny_getItem_list_slice hl ⟨_, σ.has _ _ ha, rfl, rfl⟩ .none (.int _ _) .none (by decide) ?_ (by rw [List.size_toArray, sizeLine_eq]; omega)) hs
  have e := h _ _ σ.fresh (σ.push (tk := s.toks) (o := listOf (items.take k).toArray 0))
  rw [slicePick_upto']
  exact e
theorem scLen {l : Addr} {items : List Value} (σ : St R V L m s) (hl : s.heap.IsList l items.toArray) (hz : items.length ≤ 1000) (h : ∀ s' t, St R V L m s' → Q (.int (items.length : Nat) t) s') :
    wpAny (model prog w) A (call (.builtin "len") [.ref l]) Q E s := by
  refine call_len_list hl (by rw [List.size_toArray]; omega) ?_
  rw [List.size_toArray]
  exact h _ _ σ.tok
theorem enNew {l : Addr} {items : List Value} {n : Nat} (σ : St R V L m s) (hl : V l = some (listOf items.toArray n))
    (h : ∀ s' e it, IsEnum s'.heap e it 0 .none → s'.heap.IsListIter it l 0 → Gone V e → Gone V it → R.F e = none → R.F it = none → e ≠ L → it ≠ L → e ≠ it → St R V L m s' → Q (.ref e) s') : wpAny (model prog w) A (call (.type "enumerate") [.ref l]) Q E s := by
  refine call_enumerate_1 (σ.has _ _ hl) fun h' he hit hsz hk => ?_
  have f1 := σ.fresh
  have f2 := σ.freshF
  have n1 := Nat.ne_of_gt σ.ns.lt
  have big : ∀ a, s.heap.objs.size ≤ a → s.heap.get? a = none := fun a ha => by
    cases q : s.heap.get? a with
    | none => rfl
    | some o => exact absurd (Heap.lt_size q) (Nat.not_lt.mpr ha)
  have gV : Gone V (s.heap.objs.size + 1) := ⟨by
    cases q : V (s.heap.objs.size + 1) with
    | none => rfl
    | some o => have := σ.has _ _ q; rw [big _ (Nat.le_succ _)] at this; cases this⟩
  have gF : R.F (s.heap.objs.size + 1) = none := by
    cases q : R.F (s.heap.objs.size + 1) with
    | none => rfl
    | some o => have := σ.keep _ _ q; rw [big _ (Nat.le_succ _)] at this; cases this
  exact h _ _ _ he hit gV f1 gF f2 (Nat.ne_of_gt (Nat.lt_succ_of_lt σ.ns.lt)) n1 (Nat.succ_ne_self _) (σ.keeps hk)
end

/-! ## part Pure3 -/

/-! ## the rows that the first loop makes -/
def Off (o : Int) : Prop := ∃ q : Int, o = 10 * q ∧ 0 ≤ q ∧ q ≤ 10 ^ 14 ∧ q ≠ 1
structure Inv (rs : List (Int × Int)) : Prop where
  grow : Grow rs
  shape : ∀ (k : Nat) (p : Int × Int), rs[k]? = some p → ∃ q : Int, p.1 = 1 + (k : Int) + 10 * q
theorem Inv.nil : Inv [] := ⟨.nil, fun k p h => by simp at h⟩
theorem off_ne {k n : Nat} {q q' : Int} (h : k < n) (hn : n ≤ 9) : 1 + (k : Int) + 10 * q ≠ 1 + (n : Int) + 10 * q' := by omega
theorem off_19 {n : Nat} {q : Int} (hn : n ≤ 9) (h : q ≠ 1) : 1 + (n : Int) + 10 * q ≠ 19 := by omega
theorem Inv.snoc {rs : List (Int × Int)} {o p : Int} (h : Inv rs) (hl : rs.length ≤ 9) (ho : Off o) (hp : p = 0 ∨ p ∈ rs.map (·.1)) : Inv (rs ++ [(1 + (rs.length : Int) + o, p)]) := by
  obtain ⟨q, rfl, h0, h1, h2⟩ := ho
  refine ⟨.snoc h.grow (by omega) (by omega) (off_19 hl h2) ?_ hp, fun k q' hq => ?_⟩
  · intro hm
    obtain ⟨q', hq, e⟩ := List.mem_map.mp hm
    obtain ⟨k, hk⟩ := List.getElem?_of_mem hq
    obtain ⟨o', e'⟩ := h.shape k q' hk
    exact off_ne (List.getElem?_eq_some_iff.mp hk).1 hl (e'.symm.trans e)
  · rcases Nat.lt_trichotomy k rs.length with h1 | h1 | h1
    · rw [List.getElem?_append_left h1] at hq; exact h.shape k q' hq
    · subst h1
      simp at hq
      subst hq
      exact ⟨q, rfl⟩
    · rw [List.getElem?_eq_none (by simp; omega)] at hq; cases hq
def menu (k : Int) : Int := [0, 20, 700, 10 ^ 15].getD k.toNat 0
theorem menu_is (k : Int) : Off (menu k) := by
  unfold menu
  match k.toNat with
  | 0 => exact ⟨0, by decide⟩
  | 1 => exact ⟨2, by decide⟩
  | 2 => exact ⟨70, by decide⟩
  | 3 => exact ⟨10 ^ 14, by decide⟩
  | n + 4 => exact ⟨0, by simp⟩
theorem fmod_bounds (a : Int) {b : Int} (hb : 0 < b) : 0 ≤ a.fmod b ∧ a.fmod b < b := ⟨Int.fmod_nonneg_of_pos a hb, Int.fmod_lt_of_pos a hb⟩

theorem St.cells {R : Rest} {V : View} {L D : Addr} {m : Str → Option Value} {s : Shared} {vals : List Value} {ns : List Int} {z : Int} {t : Tok} (σ : St R (upd V D (listOf (vals.take 9 ++ [Value.int z t]).toArray 0)) L m s) (hI : IntsAre vals ns) :
    ∃ cells : List Value, (∀ (i : Nat) (x : Value), cells[i]? = some x → ∃ c t, x = .int c t) ∧ cells.length ≤ 10 ∧ St R (upd V D (listOf cells.toArray 0)) L m s := by
  refine ⟨_, fun i x hx => ?_, by simp; omega, σ⟩
  rcases List.mem_append.mp (List.mem_of_getElem? hx) with h | h
  · obtain ⟨j, hj⟩ := List.getElem?_of_mem (List.mem_of_mem_take h)
    obtain ⟨c, tc, e, _⟩ := hI.at _ _ hj
    exact ⟨c, tc, e⟩
  · rw [List.mem_singleton] at h
    exact ⟨_, _, h⟩

theorem Inv.fresh {rs : List (Int × Int)} {n p : Int} (h : Inv (rs ++ [(n, p)])) : n ∉ rs.map (·.1) := fun hm => by
  have := h.grow.nodup
  rw [List.map_append, List.nodup_append] at this
  exact this.2.2 _ hm n (by simp) rfl
theorem lsMenu {prog : Program} {w : World} {A : Around} {E : Value → Shared → Prop} {R : Rest} {V : View} {L l : Addr} {m : Str → Option Value} {s : Shared} {t t1 t2 t3 t4 : Tok} {n : Nat} {k : Int} {Q : Value → Shared → Prop} {value slice : PySem.Expr} {ops : List Value} (σ : St R V L m s) (hl : V l = some (listOf [Value.int 0 t1, .int 20 t2, .int 700 t3, .int (10 ^ 15) t4].toArray n)) (h0 : 0 ≤ k) (h1 : k < 4) (h : ∀ u, Q (.int (menu k) u) s)
    (hs : subscripted slice false (.ref l) (.int k t) = operate ops (getItem (.ref l) (.int k t)) := by with_unfolding_all rfl) : wpAny (model prog w) A (subscriptTail value slice (.ref l) (.int k t)) Q E s := by
  obtain ⟨u, hu⟩ : ∃ u, [Value.int 0 t1, .int 20 t2, .int 700 t3, .int (10 ^ 15) t4][k.toNat]? = some (.int (menu k) u) := by
    unfold menu
    have : k.toNat < 4 := by omega
    match k.toNat, this with
    | 0, _ => exact ⟨t1, rfl⟩
    | 1, _ => exact ⟨t2, rfl⟩
    | 2, _ => exact ⟨t3, rfl⟩
    | 3, _ => exact ⟨t4, rfl⟩
  exact lsItem σ hl h0 (by omega) hu (h u) hs

/-- between two turns of the first loop -/
inductive JLaw (prog : Program) (w : World) (Vb : View) (nl d : Addr) (j : Nat) (V' : View) (m' : Str → Option Value) : Prop
  | mk (rs : List (Int × Int)) (o : Obj) (kvs : List (Int × Value)) (vs : List Value) (e : Nat) : Le (hide (hide Vb nl) d) V' → m' (nm "numbers") = some (.ref nl) → m' (nm "above_of") = some (.ref d) → rs.length = j → Inv rs → V' d = some o → IntDict prog w o kvs → Rows rs kvs →
      V' nl = some (listOf vs.toArray e) → IntsAre vs (rs.map (·.1)) → JLaw prog w Vb nl d j V' m'
theorem JLaw.le {prog : Program} {w : World} {Vb : View} {nl d : Addr} {j : Nat} {V' : View} {m' : Str → Option Value} (h : JLaw prog w Vb nl d j V' m') : Le (hide (hide Vb nl) d) V' := by
  cases h; assumption

theorem law_start {w : World} {s₁ : Shared} {h₁ : Heap} {tk₁ : Nat} {mg mb m : Str → Option Value} {o1 o2 : Obj} {c1 c2 L : Addr} (T : TopRead Px looseX mg mb s₁.heap) (X : (Kx w).In s₁.heap) (F : Fr s₁.heap L h₁ m) (N : News s₁.heap L h₁ [(c1, o1), (c2, o2)]) (hne : c1 ≠ c2) (hL : s₁.heap.get? L = none) :
    Gd w ⟨s₁.heap.get?, s₁.gens, s₁.os⟩ ∧ St ⟨s₁.heap.get?, s₁.gens, s₁.os⟩ (upd (upd (fun _ => none) c1 o1) c2 o2) L m ⟨h₁, s₁.gens, s₁.drawn, tk₁, s₁.os⟩ := by
  have n1 := N (c1, o1) (by simp)
  have n2 := N (c2, o2) (by simp)
  refine ⟨⟨s₁.heap, mg, mb, fun a o h => h, T, X⟩, F.ns, fun a o h => ?_, ?_, fun a o h => F.keep a o h, fun a o h => ?_, hL, rfl, rfl⟩
  · by_cases h2 : a = c2
    · subst h2; rw [upd_same] at h; cases h; exact n2.1
    · rw [upd_at, if_neg h2] at h
      by_cases h1 : a = c1
      · subst h1; rw [upd_same] at h; cases h; exact n1.1
      · rw [upd_at, if_neg h1] at h; cases h
  · rw [upd_at, if_neg (Ne.symm n2.2.1), upd_at, if_neg (Ne.symm n1.2.1)]
  · by_cases h2 : a = c2
    · subst h2; exact n2.2.2
    · rw [upd_at, if_neg h2] at h
      by_cases h1 : a = c1
      · subst h1; exact n1.2.2
      · rw [upd_at, if_neg h1] at h; cases h

/-! ## part Pure4 -/

section
variable {keys : List Int} {kf : Int → List Int}
mutual
theorem txt_small (hN : ∀ n ∈ keys, IsNum n (decs n)) : ∀ t : PT, OKT keys kf t → ∀ c ∈ txt t, c < 256
  | .nd n ks, h, c, hc => by
    obtain ⟨h1, h2, h3⟩ := h.inv
    rw [txt_nd] at hc
    rcases List.mem_append.mp hc with h4 | h4
    · have := (hN n h1).all c h4; omega
    · exact rest_small hN ks h3 c h4
theorem rest_small (hN : ∀ n ∈ keys, IsNum n (decs n)) : ∀ ks : List PT, (∀ k ∈ ks, OKT keys kf k) → ∀ c ∈ rest ks, c < 256
  | [], _, c, hc => by simp [rest] at hc
  | [k], h, c, hc => by
    have e : rest [k] = 32 :: txt k := by simp [rest, chain]
    rw [e] at hc
    rcases List.mem_cons.mp hc with h4 | h4
    · omega
    · exact txt_small hN k (h k (by simp)) c h4
  | k :: k2 :: r, h, c, hc => by
    have e : rest (k :: k2 :: r) = 32 :: txts (k :: k2 :: r) := by simp [rest]
    rw [e] at hc
    rcases List.mem_cons.mp hc with h4 | h4
    · omega
    · exact txts_small hN (k :: k2 :: r) h c h4
theorem txts_small (hN : ∀ n ∈ keys, IsNum n (decs n)) : ∀ ks : List PT, (∀ k ∈ ks, OKT keys kf k) → ∀ c ∈ txts ks, c < 256
  | [], _, c, hc => by rw [txts] at hc; cases hc
  | k :: r, h, c, hc => by
    rw [txts] at hc
    rcases List.mem_append.mp hc with h4 | h4
    · rcases List.mem_cons.mp h4 with h5 | h5
      · omega
      · rcases List.mem_append.mp h5 with h6 | h6
        · exact txt_small hN k (h k (by simp)) c h6
        · rw [List.mem_singleton] at h6; omega
    · exact txts_small hN r (fun q hq => h q (by simp [hq])) c h4
end
end
theorem Small.of {n : Int} (h0 : 0 < n) (h1 : n < 10 ^ 20) : Small n := ⟨(decs_ok h0 h1).len, small_of h0 h1⟩

section
variable {prog : Program} {w : World} {V V' : View} {a c : Addr} {o oc oc' : Obj} {keys : List Int} {kf : Int → List Int}
theorem cell_ne_list {v : Option Value} {its : Array Value} {n : Nat} (hc : V c = some oc) (hd : oc.data = .cell v) (h : V a = some (listOf its n)) : a ≠ c := by
  rintro rfl; rw [h] at hc; cases hc; cases hd
theorem cell_ne_dict {v : Option Value} {kvs : List (Int × Value)} (hc : V c = some oc) (hd : oc.data = .cell v) (h : V a = some o) (D : IntDict prog w o kvs) : a ≠ c := by
  rintro rfl
  rw [h] at hc; cases hc
  obtain ⟨es, ep, _, h2, _⟩ := D
  rw [h2] at hd; cases hd
theorem BelowAt.cell {v : Option Value} (hc : V c = some oc) (hd : oc.data = .cell v) (h : BelowAt prog w V a keys kf) : BelowAt prog w (hide V c) a keys kf := by
  obtain ⟨o, kvs, h1, h2, h3⟩ := h
  refine ⟨o, kvs, hide_at (cell_ne_dict hc hd h1 h2) h1, h2, fun k hk => ?_⟩
  obtain ⟨b, vs, n, e1, e2, e3⟩ := h3 k hk
  exact ⟨b, vs, n, e1, hide_at (cell_ne_list hc hd e2) e2, e3⟩
theorem le_cell : Le (hide V c) (upd V c oc') := Le.upd hide_gone hide_le
theorem BelowAt.use {G : Prop} (h : BelowAt prog w V a keys kf) (k : Int) (hk : k ∈ keys) (g : ∀ o kvs b vs n, V a = some o → IntDict prog w o kvs → valueAt kvs k = some (.ref b) → V b = some (listOf vs.toArray n) → IntsAre vs (kf k) → G) : G := by
  obtain ⟨o, kvs, h1, h2, h3⟩ := h
  obtain ⟨b, vs, n, e1, e2, e3⟩ := h3 k hk
  exact g o kvs b vs n h1 h2 e1 e2 e3
theorem BelowAt.sub {keys' : List Int} (h : BelowAt prog w V a keys kf) (hs : ∀ k ∈ keys', k ∈ keys) : BelowAt prog w V a keys' kf := by
  obtain ⟨o, kvs, h1, h2, h3⟩ := h
  exact ⟨o, kvs, h1, h2, fun k hk => h3 k (hs k hk)⟩
end
theorem Grow.parOf {rs : List (Int × Int)} {kvs : List (Int × Value)} (g : Grow rs) (h : Rows rs kvs) : ParOf kvs (rs.map (·.1)) (Mine.parOf rs) := fun n hn => by
  obtain ⟨⟨a, p⟩, hp, rfl⟩ := List.mem_map.mp hn
  have e := g.par_mem hp
  show ∃ t, valueAt kvs a = some (.int (Mine.parOf rs a) t)
  rw [e]
  exact h.value g.nodup hp
theorem Grow.nodup0 {rs : List (Int × Int)} (g : Grow rs) : (0 :: rs.map (·.1)).Nodup := List.nodup_cons.mpr ⟨fun h => by have := (g.pos 0 h).1; omega, g.nodup⟩
theorem Grow.par0 {rs : List (Int × Int)} (g : Grow rs) : ∀ n ∈ rs.map (·.1), Mine.parOf rs n ∈ 0 :: rs.map (·.1) := fun n hn => by
  rcases g.par_in n hn with h | h
  · rw [h]; exact List.mem_cons_self
  · exact List.mem_cons_of_mem _ h
theorem Grow.nums {rs : List (Int × Int)} (g : Grow rs) : ∀ n ∈ rs.map (·.1), IsNum n (decs n) := fun n hn => decs_ok (g.pos n hn).1 (g.pos n hn).2.1
theorem kfOf_par {par : Int → Int} {ns : List Int} : ∀ n ∈ ns, ∀ i ∈ kfOf par ns n, par i = n := fun n _ i hi => by
  have := (List.mem_filter.mp hi).2
  simpa using this
theorem mem_kfOf {par : Int → Int} {ns : List Int} {n i : Int} (h : i ∈ kfOf par ns n) : par i = n ∧ i ∈ ns := by
  have := List.mem_filter.mp h
  exact ⟨by simpa using this.2, this.1⟩

section
variable {M : Model} {A : Around} {E : Value → Shared → Prop} {R : Rest} {V : View} {L : Addr} {m : Str → Option Value} {s : Shared} {env : Env} {x : Str} {pos : Pos} {v : Value}
theorem stLT {Q : Unit → Shared → Prop} (σ : St R V L m s) (h : ∀ s', 1 ≤ s'.toks → St R V L (setm m x v) s' → Q () s') (hL : env.locals = L := by rfl) (hk : env.scope.kind = .function := by rfl)
    (hl : env.kindOf x = some .local := by rfl) : wpAny M A (storeName env x v) Q E s := by
  subst hL
  exact wpAny_storeName_local hl σ.ns (fun h' hn hs => h _ (Nat.le_add_left _ _) (σ.setLocals hn hs)) (by rw [hk]; rfl)
theorem cnStrT {k : Nat} {Q : Value → Shared → Prop} (σ : St R V L m s) (h : ∀ s', s'.toks = s.toks + 1 → St R V L m s' → Q (.str x s.toks) s') : wpAny M A (eval (.Constant (.str x) k pos) env) Q E s := wpAny_Constant_str (h _ rfl σ.tok)
end

theorem nodeTold {prog : Program} {w : World} {A : Around} {E : Value → Shared → Prop} {R : Rest} {V : View} {L x : Addr} {m : Str → Option Value} {s : Shared} {i : Int} {kl : Addr} {pl : Sem Bool} {Q : Value × List Value → Shared → Prop} (G : Gd w R) (σ : St R V L m s) (h : NodeAt V x i kl) (k : Q (.ref 73, [.ref x]) s) : wpAny (model prog w) A (getMethod (.ref x) (nm "told") pl) Q E s := by
  obtain ⟨dx, es, n, t, h1, h2, h3, h4, h5⟩ := h
  exact inMeth G σ h1 h2 (by exact rfl) (by exact rfl) (by exact rfl) h5 k
theorem rows_mem : ∀ {ps : List (Int × Int)} {kvs : List (Int × Value)}, Rows ps kvs → ∀ q ∈ kvs, ∃ p t, (q.1, p) ∈ ps ∧ q.2 = .int p t
  | _, _, .nil, q, hq => nomatch hq
  | _, _, .cons (a := a) h r, q, hq => by
    rcases List.mem_cons.mp hq with rfl | hq
    · obtain ⟨e, t, e2⟩ := h
      exact ⟨a.2, t, by rw [e]; exact List.mem_cons_self, e2⟩
    · obtain ⟨p, t, h1, h2⟩ := rows_mem r q hq
      exact ⟨p, t, List.mem_cons_of_mem _ h1, h2⟩
/-- what is told of the forest's nodes -/
structure Told (rs : List (Int × Int)) (ats : List AT) : Prop where
  ok : ∀ t ∈ AT.pts ats, OKT (rs.map (·.1)) (kfOf (parOf rs) (rs.map (·.1))) t
  roots : (AT.pts ats).map PT.num = kfOf (parOf rs) (rs.map (·.1)) 0
  perm : (PT.pres (AT.pts ats)).Perm (rs.map (·.1))
section
variable {rs : List (Int × Int)} {ats : List AT} {kvs kvs1 : List (Int × Value)}
theorem Told.root (h : Told rs ats) : ∀ t ∈ AT.pts ats, parOf rs t.num = 0 := fun t ht => by
  have : t.num ∈ kfOf (parOf rs) (rs.map (·.1)) 0 := by rw [← h.roots]; exact List.mem_map_of_mem ht
  exact (mem_kfOf this).1
theorem Told.nums (h : Told rs ats) : ((AT.pres ats).map AT.num).Perm (rs.map (·.1)) := by rw [pres_pts]; exact h.perm
theorem Told.pos (h : Told rs ats) (g : Grow rs) : ∀ t ∈ AT.pres ats, 0 < t.num := fun t ht => (g.pos _ (h.nums.mem_iff.mp (List.mem_map_of_mem ht))).1
theorem Told.nodup (h : Told rs ats) (g : Grow rs) : ((AT.pres ats).map AT.num).Nodup := h.nums.nodup_iff.mpr g.nodup
theorem Told.len (h : Told rs ats) : (AT.pres ats).length = rs.length := by
  have := h.nums.length_eq
  simpa using this
theorem Told.par (h : Told rs ats) : ∀ q ∈ parPairs ats, parOf rs q.1 = q.2 := parPairs_par kfOf_par h.ok h.root
theorem Told.key (h : Told rs ats) : ∀ q ∈ parPairs ats, q.1 ∈ rs.map (·.1) := fun q hq => h.nums.mem_iff.mp ((parPairs_keys ats).mem_iff.mp (List.mem_map_of_mem hq))
theorem Told.rows_len (h : Told rs ats) (h1 : Rows (parPairs ats) kvs1) (h2 : Rows rs kvs) : kvs1.length = kvs.length := by
  rw [← paired_len h1, ← paired_len h2]
  have := (parPairs_keys ats).length_eq
  simp only [List.length_map] at this
  rw [this, h.len]
theorem Told.hit (h : Told rs ats) (g : Grow rs) (h1 : Rows (parPairs ats) kvs1) (h2 : Rows rs kvs) : ∀ p ∈ kvs1, ∃ i t u, p.2 = .int i t ∧ valueAt kvs p.1 = some (.int i u) := fun p hp => by
  obtain ⟨i, t, hm, e⟩ := rows_mem h1 p hp
  obtain ⟨u, hu⟩ := g.parOf h2 p.1 (h.key _ hm)
  have hp := h.par _ hm
  replace hp : parOf rs p.1 = i := hp
  rw [hp] at hu
  exact ⟨i, t, u, e, hu⟩
theorem Told.parOf1 (h : Told rs ats) (g : Grow rs) (h1 : Rows (parPairs ats) kvs1) : ParOf kvs1 ((AT.pres ats).map AT.num) (parOf rs) := fun n hn => by
  have hnd : ((parPairs ats).map (·.1)).Nodup := (parPairs_keys ats).nodup_iff.mpr (h.nodup g)
  exact h1.value hnd (parPairs_has kfOf_par h.ok h.root (by rw [← pres_pts]; exact hn))
theorem Told.all_pos (h : Told rs ats) (g : Grow rs) : ((AT.pres ats).map AT.num).filter (fun i => 0 < i) = (AT.pres ats).map AT.num := by
  refine List.filter_eq_self.mpr fun i hi => ?_
  obtain ⟨t, ht, rfl⟩ := List.mem_map.mp hi
  simpa using h.pos g t ht
theorem Told.again (h : Told rs ats) (g : Grow rs) : ∀ t ∈ AT.pts ats, OKT ((AT.pres ats).map AT.num) (fun p => ((AT.pres ats).map AT.num).filter fun i => parOf rs i = p) t := fun t ht => by
  refine OKT.mono (fun n hn => h.nums.mem_iff.mpr hn) (fun n hn => ?_) (h.ok t ht)
  rw [pres_pts]
  have h0 : (0 : Int) ∉ PT.pres (AT.pts ats) := fun hm => by have := (g.pos 0 (h.perm.mem_iff.mp hm)).1; omega
  exact filter_kids kfOf_par 0 (AT.pts ats) h.ok h.root h0 (h.perm.nodup_iff.mpr g.nodup) n (h.perm.mem_iff.mpr hn)
theorem Told.again0 (h : Told rs ats) (g : Grow rs) : (((AT.pres ats).map AT.num).filter fun i => parOf rs i = 0) = (AT.pts ats).map PT.num := by
  have h0 : (0 : Int) ∉ PT.pres (AT.pts ats) := fun hm => by have := (g.pos 0 (h.perm.mem_iff.mp hm)).1; omega
  rw [pres_pts]
  exact filter_root kfOf_par h.ok h.root h0
theorem Told.order (h : Told rs ats) (g : Grow rs) : wordsN (flat (txts (AT.pts ats))) = ((AT.pres ats).map AT.num).map decs := by
  rw [words_txts g.nums _ h.ok, pres_pts]
theorem Told.top (h : Told rs ats) (g : Grow rs) {n : Int} (hn : n ∈ rs.map (·.1)) : ∃ t ∈ ats, foundOf n ats = .ref t.addr ∧ TopOf (parOf rs) n t.num := by
  obtain ⟨t, ht, h1, h2⟩ := found_some (g.pos n hn).1 (h.perm.mem_iff.mpr hn)
  have hm : t.pt ∈ AT.pts ats := by rw [AT.pts_map]; exact List.mem_map_of_mem ht
  have hr := h.root _ hm
  rw [pt_num] at hr
  refine ⟨t, ht, h1, top_pre kfOf_par (fun n hn => by have := (g.pos n hn).1; omega) t.pt (h.ok _ hm) ?_ n h2⟩
  rw [pt_num]
  exact .here hr
theorem Told.none (h : Told rs ats) (g : Grow rs) {n : Int} (hn : n = 0 ∨ n = 19) : foundOf n ats = .none := found_none fun _ hm => by
  have := g.pos n (h.perm.mem_iff.mp hm)
  omega
end

/-! ## part Pure5 -/

/-! ## words and their numbers -/
def pz (v : Value) : Bool := match v with
  | .str x _ => x != Str.ofString ""
  | _ => false
theorem IsNum.unique {n k : Int} {ds : List Nat} (h : IsNum n ds) (h' : IsNum k ds) : n = k := by rw [← h.val, h'.val]
theorem ne_nil (x : Str) : (x != Str.ofString "") = !x.cps.toList.isEmpty := by
  rw [str_nil]
  by_cases h : x = S []
  · subst h; rfl
  · have h1 : (x != S []) = true := bne_iff_ne.mpr h
    rw [h1]
    cases q : x.cps.toList with
    | nil => exact absurd (by rw [S_eta x, q]) h
    | cons a r => rfl
theorem strs_filter : ∀ {vs : List Value} {ws : List Str}, StrsAre vs ws → StrsAre (vs.filter pz) (ws.filter fun x => !x.cps.toList.isEmpty)
  | _, _, .nil => .nil
  | _, _, .cons x t h => by
    have e : pz (.str x t) = !x.cps.toList.isEmpty := ne_nil x
    rw [List.filter_cons, List.filter_cons, e]
    cases q : (!x.cps.toList.isEmpty) with
    | false => simpa using strs_filter h
    | true => simpa using StrsAre.cons x t (strs_filter h)
theorem strs_at {vs : List Value} {ws : List Str} (h : StrsAre vs ws) : ∀ {i : Nat} {v : Value}, vs[i]? = some v → ∃ x t, v = .str x t ∧ ws[i]? = some x := by
  induction h with
  | nil => intro i v h; cases h
  | cons x t _ ih =>
    intro i v h
    cases i with
    | zero => cases h; exact ⟨x, t, rfl, rfl⟩
    | succ i => exact ih (by simpa using h)
theorem strs_words {vs : List Value} {ws : List Str} {ns : List Int} (h : StrsAre vs ws) : ∀ {ys : List Value} {ns : List Int}, ws.map (·.cps.toList) = ns.map decs → (∀ n ∈ ns, IsNum n (decs n)) →
    Paired (fun v y => ∃ x t n t', v = Value.str x t ∧ IsNum n x.cps.toList ∧ y = .int n t') vs ys → IntsAre ys ns := by
  induction h with
  | nil =>
    intro ys ns e hn hp
    cases hp
    cases ns with
    | nil => exact .nil
    | cons => cases e
  | cons x t _ ih =>
    intro ys ns e hn hp
    cases hp with
    | cons h r =>
    obtain ⟨x', t', n, t2, e1, e2, rfl⟩ := h
    cases e1
    cases ns with
    | nil => cases e
    | cons k ns =>
      rw [List.map_cons, List.map_cons] at e
      injection e with h1 h2
      rw [h1] at e2
      have := e2.unique (hn k List.mem_cons_self)
      subst this
      exact .cons _ _ (ih h2 (fun n hn' => hn n (List.mem_cons_of_mem _ hn')) r)
theorem filter_lists (ws : List Str) : (ws.filter fun x => !x.cps.toList.isEmpty).map (·.cps.toList) = (ws.map (·.cps.toList)).filter fun w => !w.isEmpty := by
  rw [List.filter_map]
  rfl
theorem words_ints {vs ys : List Value} {ws : List Str} {xs : List Nat} {ns : List Int} (h : StrsAre vs ws) (hw : ws.map (·.cps.toList) = splitN 32 xs) (hx : wordsN xs = ns.map decs) (hn : ∀ n ∈ ns, IsNum n (decs n))
    (hp : Paired (fun v y => ∃ x t n t', v = Value.str x t ∧ IsNum n x.cps.toList ∧ y = .int n t') (vs.filter pz) ys) : IntsAre ys ns := by
  refine strs_words (ns := ns) (strs_filter h) ?_ hn hp
  rw [filter_lists, hw]
  exact hx
theorem word_num {vs : List Value} {ws : List Str} {xs : List Nat} {ns : List Int} {v : Value} {i : Nat} (h : StrsAre vs ws) (hw : ws.map (·.cps.toList) = splitN 32 xs) (hx : wordsN xs = ns.map decs) (hn : ∀ n ∈ ns, IsNum n (decs n)) (hv : vs[i]? = some v) (hp : pz v = true) :
    ∃ x t n, v = .str x t ∧ IsNum n x.cps.toList := by
  obtain ⟨x, t, rfl, hx1⟩ := strs_at h hv
  have e : (!x.cps.toList.isEmpty) = true := by rw [← ne_nil]; exact hp
  have hm : x.cps.toList ∈ wordsN xs := by
    unfold wordsN
    rw [← hw]
    exact List.mem_filter.mpr ⟨List.mem_map_of_mem (List.mem_of_getElem? hx1), e⟩
  rw [hx] at hm
  obtain ⟨n, hn1, hn2⟩ := List.mem_map.mp hm
  exact ⟨x, t, n, rfl, by rw [← hn2]; exact hn n hn1⟩

section
variable {prog : Program} {w : World} {A : Around} {R : Rest} {V : View} {L : Addr} {m : Str → Option Value} {s : Shared} {n : Nat} {P : Nat → Value → Prop} {env : Env} {xv : Value}
  {elt iter : PySem.Expr} {x : Str} {px : Pos} {ifs : List PySem.Expr} {scope : Scope} {cl : List (Str × Addr)} {pos : Pos}
theorem compKUse2 {Q : Shared → Prop} {y : Str} {py : Pos} (σ : St R V L m s) (W : Walked prog w A V xv n P) (hn : n ≤ 1000) (p : Value → Bool) (F : Value → Value → View → Prop) (mono : ∀ v y V V', Le V V' → F v y V → F v y V')
    (hcell : ∀ y ∈ scope.names, y.2 ≠ .cell) (hkind : scope.kind = .function) (hx : scope.names.lookup x = some .local) (hL : env.locals = L) (hk : env.scope.kind = .function) (hl : env.kindOf y = some .local)
    (tests : ∀ R' V' C mc s' v i, (Gd w R → Gd w R') → Le V V' → P i v → St R' V' C mc s' → mc x = some v →
      wpAny (model prog w) A (ifsTree ifs (compEnvC scope cl C env)) (fun ok s'' => ok = p v ∧ ∃ mc', mc' x = some v ∧ St R' V' C mc' s'') NoE s')
    (helt : ∀ R' V' C mc s' v i, (Gd w R → Gd w R') → Le V V' → P i v → p v = true → St R' V' C mc s' → mc x = some v →
      wpAny (model prog w) A (eval elt (compEnvC scope cl C env)) (fun y s'' => ∃ V'' mc', Le V' V'' ∧ F v y V'' ∧ St R' V'' C mc' s'') NoE s')
    (hQ : ∀ V' D nn ys (vs : List Value) s', Le V V' → Gone V D → V' D = some (listOf ys.toArray nn) → vs.length = n → (∀ i v, vs[i]? = some v → P i v) → Paired (fun v y => F v y V') (vs.filter p) ys → St R V' L (setm m y (.ref D)) s' → Q s') :
    CompK prog w A elt x px iter ifs scope cl pos env (some (assign (.Name y py) env)) (fun _ s' => Q s') xv s :=
  compKUse (Q := fun _ s' => Q s') σ W hn p F mono hcell hkind hx hL hk hl tests helt hQ
end

section
variable {V : View} {c : Addr} {oc : Obj} {v : Option Value}
theorem cell_ne_inst {a C dx : Addr} (hc : V c = some oc) (hd : oc.data = .cell v) (h : V a = some (instObj C dx)) : a ≠ c := by
  rintro rfl; rw [h] at hc; cases hc; cases hd
theorem cell_ne_dictOf {a : Addr} {es : List DictEntry} {n : Nat} (hc : V c = some oc) (hd : oc.data = .cell v) (h : V a = some (dictOf es n)) : a ≠ c := by
  rintro rfl; rw [h] at hc; cases hc; cases hd
theorem NodeAt.cell {x kl : Addr} {i : Int} (hc : V c = some oc) (hd : oc.data = .cell v) (h : NodeAt V x i kl) : NodeAt (hide V c) x i kl := by
  obtain ⟨dx, es, n, t, h1, h2, r⟩ := h
  exact ⟨dx, es, n, t, hide_at (cell_ne_inst hc hd h1) h1, hide_at (cell_ne_dictOf hc hd h2) h2, r⟩
mutual
theorem AtV.cell (hc : V c = some oc) (hd : oc.data = .cell v) : ∀ t : AT, AtV V t → AtV (hide V c) t
  | .nd x n ks, h => by
    obtain ⟨⟨kl, ep, h1, h2⟩, h3⟩ := h
    exact ⟨⟨kl, ep, h1.cell hc hd, hide_at (cell_ne_list hc hd h2) h2⟩, AtVs.cell hc hd ks h3⟩
theorem AtVs.cell (hc : V c = some oc) (hd : oc.data = .cell v) : ∀ ts : List AT, AtVs V ts → AtVs (hide V c) ts
  | [], _ => trivial
  | t :: ts, h => ⟨AtV.cell hc hd t h.1, AtVs.cell hc hd ts h.2⟩
end
end
theorem Told.par0 {rs : List (Int × Int)} {ats : List AT} (h : Told rs ats) (g : Grow rs) : ∀ n ∈ (AT.pres ats).map AT.num, parOf rs n ∈ 0 :: (AT.pres ats).map AT.num := fun n hn => by
  rcases g.par_in n (h.nums.mem_iff.mp hn) with h1 | h1
  · rw [h1]; exact List.mem_cons_self
  · exact List.mem_cons_of_mem _ (h.nums.mem_iff.mpr h1)
theorem Told.nodup0 {rs : List (Int × Int)} {ats : List AT} (h : Told rs ats) (g : Grow rs) : (0 :: (AT.pres ats).map AT.num).Nodup := List.nodup_cons.mpr ⟨fun hm => by have := (g.pos 0 (h.nums.mem_iff.mp hm)).1; omega, h.nodup g⟩

/-! ## law -/
theorem wp_gen {M : Model} {B : Around} {α : Type} {t : Sem α} {Q : α → Shared → Prop} {E : Value → Shared → Prop} {s : Shared} (h : ∀ A : Around, A.handled = none → A.depth < 310 → A.units < 100 → wpAny M A t Q E s) (h1 : B.handled = none) (h2 : B.depth < 310) (h3 : B.units < 100) : wpAny M B t Q E s := h B h1 h2 h3
theorem law_holds : PySem.Challenge.rw_or0037_01.Holds := by
  refine Mine.hd ?_
  k_go0
  rename_i w s₀ s₁ mg mb G Y fa o pm doc ho hg KX X V GL T B TE TW _ _ M _ _ hcd ns hs hlay0 hL hr hl2 _ _ l vals _ hLs ra w1 r0 hI hr2 hc1 hc2 K0 hD h₁ tk₁ F o1 o2 left right N0 X0
  refine wpAny_mono (Q := fun fl s' => fl = .ret (.bool true) ∧ ∃ V' m', St ⟨s₁.heap.get?, s₁.gens, s₁.os⟩ V' s₁.heap.objs.size m' s') (E := NoE) ?walk (fun fl s' h => ?post) (fun _ _ h => h.elim)
  case post =>
    obtain ⟨rfl, V', m', σ⟩ := h
    exact goodW_bool (L := s₁.heap.objs.size) (m := m') ⟨σ.ns, fun b o e => σ.keep b o e, Nat.le_refl _⟩ (σ.gens.trans hg) (fun _ => rfl) (postW_of (X := true) rfl (by with_unfolding_all rfl) rfl) σ.os
  have hLn : s₁.heap.get? s₁.heap.objs.size = none := by
    cases q : s₁.heap.get? s₁.heap.objs.size with
    | none => rfl
    | some o => exact absurd (Heap.lt_size q) (Nat.lt_irrefl _)
  obtain ⟨GG, σ₀⟩ := law_start (w := w) (tk₁ := tk₁) (topRead_of T) KX F N0 (Nat.succ_ne_self _) hLn
  replace left : o1.data = .cell none := left
  replace right : o2.data = .cell none := right
  have hLs' : s₁.heap.IsList l vals.toArray := hLs
  have hlen : vals.length = ns.length := hI.length
  have hns : ns.length ≤ 63 := by omega
  have σ : St ⟨s₁.heap.get?, s₁.gens, s₁.os⟩ (upd (upd (fun _ => none) (s₁.heap.objs.size + 1 + 1) o1) (s₁.heap.objs.size + 1) o2) s₁.heap.objs.size (setm (fun _ => none) (nm "script") (.ref l)) ⟨h₁, s₁.gens, s₁.drawn, tk₁, s₁.os⟩ := σ₀
  refine wp_gen (fun A hA hd hu => ?_) rfl (by show callerA.depth + 1 < 310; decide) (by show callerA.units + 3 < 100; decide)
  clear σ₀ X0 hD N0 F M hcd GL X V T B TE TW G Y ho hr hs w1 r0 ra hr2 K0 hc2
  have hLR : ∀ (R : Rest) V L m s, St R V L m s → (∀ a o, s₁.heap.get? a = some o → s.heap.get? a = some o) → s.heap.IsList l vals.toArray := fun R V L m s _ k => hLs'.at fun o e => k _ _ e
  have hkeep : ∀ {V L m s}, St ⟨s₁.heap.get?, s₁.gens, s₁.os⟩ V L m s → s.heap.IsList l vals.toArray := fun τ => hLs'.at fun o e => τ.keep _ _ e
  obtain ⟨R, eR⟩ : ∃ R : Rest, R = ⟨s₁.heap.get?, s₁.gens, s₁.os⟩ := ⟨_, rfl⟩
  rw [← eR] at GG σ ⊢
  simp only [← eR] at hkeep
  clear eR hLR
  dsimp only
  repeat (walk_at "go")
  rename_i nl _ gnl _ _ d od hsd gd Dd _ tp1 _ gtp1 _ _ _ _ _ _ _ _ _ _ sl1 _ gsl1 _
  refine scCut (k := 9) (by assumption) (hkeep (by assumption)) (by walk_at "view") (by walk_at "ar") ?_
  intro s₂ D₂ gD₂ σ₂
  repeat (walk_at "go")
  refine lsCopy (by assumption) (by walk_at "view") (by simp; omega) ?_
  intro s₃ D₃ n₃ gD₃ σ₃
  repeat (walk_at "go")
  refine scLen (by assumption) (hkeep (by assumption)) (by walk_at "ar") ?_
  intro s₄ t₄ σ₄
  repeat (walk_at "go")
  refine aMul (by assumption) (.of_right (by decide)) ?_
  intro s₅ t₅ σ₅
  repeat (walk_at "go")
  rename_i _ _ _ _ _ _ D₅ s₆ gD₅ σ₆
  refine lsAdd (by assumption) (by walk_at "view") upd_same (by simp; omega) ?_
  intro s₇ D₇ gD₇ σ₇
  obtain ⟨cells, hcells, hcl, σ₇⟩ := St.cells σ₇ hI
  repeat (walk_at "go")
  refine enNew (by assumption) upd_same ?_
  intro s₈ en it hen hit gen git fen fit nen nit hei σ₈
  have hcc : s₁.heap.objs.size + 1 + 1 ≠ s₁.heap.objs.size + 1 := Nat.succ_ne_self _
  have z1 : upd (upd (fun _ => none) (s₁.heap.objs.size + 1 + 1) o1) (s₁.heap.objs.size + 1) o2 (s₁.heap.objs.size + 1) = some o2 := upd_same
  have z2 : upd (upd (fun _ => none) (s₁.heap.objs.size + 1 + 1) o1) (s₁.heap.objs.size + 1) o2 (s₁.heap.objs.size + 1 + 1) = some o1 := upd_ne hcc upd_same
  have z3 : s₁.heap.objs.size + 1 ≠ nl := ne_fresh gnl z1
  have z4 : s₁.heap.objs.size + 1 + 1 ≠ nl := ne_fresh gnl z2
  have z5 : nl ≠ d := ne_fresh gd upd_same
  have z6 : s₁.heap.objs.size + 1 ≠ d := ne_fresh gd (upd_keep gnl z1)
  have z7 : s₁.heap.objs.size + 1 + 1 ≠ d := ne_fresh gd (upd_keep gnl z2)
  refine (fun (V₀ : View) (m₀ : Str → Option Value) (σ₉ : St R V₀ s₁.heap.objs.size m₀ s₈) (v1 : V₀ (s₁.heap.objs.size + 1) = some o2) (v2 : V₀ (s₁.heap.objs.size + 1 + 1) = some o1) (v3 : V₀ nl = some (listOf ([] : List Value).toArray 0)) (v4 : V₀ d = some od) (v5 : V₀ D₇ = some (listOf cells.toArray 0)) (m1 : m₀ (nm "numbers") = some (.ref nl)) (m2 : m₀ (nm "above_of") = some (.ref d)) (g1 : Gone V₀ en) (g2 : Gone V₀ it) (e1 : nl ≠ d) (e2 : nl ≠ D₇) (e3 : d ≠ D₇) (e4 : s₁.heap.objs.size + 1 ≠ nl) (e5 : s₁.heap.objs.size + 1 ≠ d) (e6 : s₁.heap.objs.size + 1 + 1 ≠ nl) (e7 : s₁.heap.objs.size + 1 + 1 ≠ d) => ?main)
    _ _ σ₈ ?q0 ?q1 ?q2 ?q3 upd_same (by walk_at "look") (by walk_at "look") gen git z5 ?q4 ?q5 z3 z6 z4 z7
  case q0 =>
    walk_at "view"
  case q1 =>
    walk_at "view"
  case q2 =>
    walk_at "view"
  case q3 =>
    walk_at "view"
  case q4 =>
    walk_at "apart"
  case q5 =>
    walk_at "apart"
  clear σ₈ gen git σ₇ σ₆ σ₅ σ₄ σ₃ σ₂ gD₂ gD₃ gD₅ gD₇ σ gnl gd gtp1 gsl1
  refine forEnum (Vs := hide (hide V₀ nl) d) (items := cells) (n := 0) (l := D₇) hA σ₉ (hide_at e3.symm (hide_at e2.symm v5)) (Le.trans hide_le hide_le) hen hit g1 g2 fen fit nen nit hei
    (fun j V' m' => JLaw PySem.Challenge.rw_or0037_01.row.prog w V₀ nl d j V' m') (fun _ _ _ h => h.le)
    (.mk [] od [] [] 0 (Le.trans hide_le hide_le) m1 m2 rfl Inv.nil v4 Dd .nil v3 .nil) ?_ ?_
  · intro R₂ V₂ m₂ s₂ i x t T hG₂ back₂ hx hJ gT σ₂
    obtain ⟨rs, o, kvs, vs, e, hle₂, hmn, hmd, hrl, hInv, hVd, Do, hRows, hVn, hIn⟩ := hJ
    obtain ⟨c, tc, rfl⟩ := hcells i x hx
    have hi10 : i < cells.length := (List.getElem?_eq_some_iff.mp hx).1
    have G₂ := hG₂ GG
    have hvl : vs.length = rs.length := by rw [hIn.length, List.length_map]
    have hkl := paired_len hRows
    have aT : nl ≠ T := ne_fresh gT hVn
    have dT : d ≠ T := ne_fresh gT hVd
    repeat (walk_at "go")
    refine aAbs (by assumption) ?_
    intro s₃ t₃ σ₃
    generalize (if c < 0 then -c else c) = ac
    repeat (walk_at "go")
    refine aPow15 (by assumption) ?_
    intro s₄ t₄ σ₄
    repeat (walk_at "go")
    refine aFdiv11 (by assumption) ?_
    intro s₅ t₅ σ₅
    repeat (walk_at "go")
    refine aMod (by assumption) (by decide) ?_
    intro s₆ t₆ σ₆
    obtain ⟨kb1, kb2⟩ := fmod_bounds (ac.fdiv 11) (b := 4) (by decide)
    repeat (walk_at "go")
    refine aInt ?_
    repeat (walk_at "go")
    refine lsMenu (by assumption) (by walk_at "view") kb1 kb2 ?_
    intro t₇
    repeat (walk_at "go")
    refine aMod (by assumption) (by decide) ?_
    intro s₈ t₈ σ₈
    obtain ⟨kc1, kc2⟩ := fmod_bounds ac (b := 11) (by decide)
    generalize ac.fmod 11 = ae at kc1 kc2
    repeat (walk_at "go")
    refine aMod (by assumption) (by walk_at "ar") ?_
    intro s₉ t₉ σ₉
    obtain ⟨kd1, kd2⟩ := fmod_bounds ae (b := (i : Int) + 1) (by walk_at "ar")
    generalize ae.fmod ((i : Int) + 1) = ab at kd1 kd2
    repeat (walk_at "go")
    refine aInt ?_
    repeat (walk_at "go")
    refine ifB (fun hb => ?_) (fun hb => ?_)
    · have hb' : 0 < ab := by simpa using hb
      obtain ⟨v, hv⟩ : ∃ v, vs[(ab - 1).toNat]? = some v := ⟨_, List.getElem?_eq_getElem (by walk_at "ar")⟩
      obtain ⟨P, tp, rfl, hP⟩ := hIn.at _ _ hv
      have HP : P = 0 ∨ P ∈ rs.map (·.1) := .inr (List.mem_of_getElem? hP)
      repeat (walk_at "go")
      refine lsItem (by assumption) (by walk_at "view") (by walk_at "ar") (by walk_at "ar") hv ?_
      have hSn := Inv.snoc (o := menu ((ac.fdiv 11).fmod 4)) (p := P) hInv (by walk_at "ar") (menu_is _) HP
      have hFr := hSn.fresh
      repeat (walk_at "go")
      refine dcSet (by assumption) (by walk_at "view") Do (by walk_at "ar") ?_
      intro s₁₂ o₁₂ D₁₂ σ₁₂
      repeat (walk_at "go")
      refine lsAppend (by assumption) (upd_ne e1 (by walk_at "view")) (by walk_at "ar") ?_
      intro s₁₃ n₁₃ σ₁₃
      repeat (walk_at "go")
      refine ⟨_, _, ?_, by assumption⟩
      refine .mk (rs ++ [(1 + (rs.length : Int) + menu ((ac.fdiv 11).fmod 4), P)]) o₁₂ _ _ n₁₃ ?_ (by walk_at "look") (by walk_at "look") (by simp; omega) hSn (upd_ne e1.symm upd_same) D₁₂ ?_ upd_same ?_
      · refine Le.upd (Gone.hide hide_gone) (Le.upd hide_gone ?_)
        walk_at "le"
      · rw [← hrl]; exact hRows.snoc hFr
      · rw [List.map_append, ← hrl]
        exact IntsAre.append hIn (.cons _ _ .nil)
    · obtain ⟨P, hP0⟩ : ∃ P : Int, P = 0 := ⟨0, rfl⟩
      have HP : P = 0 ∨ P ∈ rs.map (·.1) := .inl hP0
      repeat (walk_at "go")
      rw [← hP0]
      have hSn := Inv.snoc (o := menu ((ac.fdiv 11).fmod 4)) (p := P) hInv (by walk_at "ar") (menu_is _) HP
      have hFr := hSn.fresh
      repeat (walk_at "go")
      refine dcSet (by assumption) (by walk_at "view") Do (by walk_at "ar") ?_
      intro s₁₂ o₁₂ D₁₂ σ₁₂
      repeat (walk_at "go")
      refine lsAppend (by assumption) (upd_ne e1 (by walk_at "view")) (by walk_at "ar") ?_
      intro s₁₃ n₁₃ σ₁₃
      repeat (walk_at "go")
      refine ⟨_, _, ?_, by assumption⟩
      refine .mk (rs ++ [(1 + (rs.length : Int) + menu ((ac.fdiv 11).fmod 4), P)]) o₁₂ _ _ n₁₃ ?_ (by walk_at "look") (by walk_at "look") (by simp; omega) hSn (upd_ne e1.symm upd_same) D₁₂ ?_ upd_same ?_
      · refine Le.upd (Gone.hide hide_gone) (Le.upd hide_gone ?_)
        walk_at "le"
      · rw [← hrl]; exact hRows.snoc hFr
      · rw [List.map_append, ← hrl]
        exact IntsAre.append hIn (.cons _ _ .nil)
  · intro V₂ m₂ s₂ hJ σ₂
    obtain ⟨rs, o, kvs, vs, e, hle₂, hmn, hmd, hrl, hInv, hVd, Do, hRows, hVn, hIn⟩ := hJ
    have hg := hInv.grow
    have hrl10 : rs.length ≤ 10 := by omega
    have w1 : V₂ (s₁.heap.objs.size + 1) = some o2 := hle₂ _ _ (hide_at e5 (hide_at e4 v1))
    have w2 : V₂ (s₁.heap.objs.size + 1 + 1) = some o1 := hle₂ _ _ (hide_at e7 (hide_at e6 v2))
    have hvl : vs.length = rs.length := by rw [hIn.length, List.length_map]
    obtain ⟨FF, hF1, hF2, hF3⟩ := forest hg
    have hnl : (rs.map (·.1)).length = rs.length := List.length_map ..
    have hFl : (PT.pres FF).length = rs.length := by rw [hF3.length_eq, hnl]
    obtain ⟨hmd', hmn'⟩ : m₂ (nm "above_of") = some (.ref d) ∧ m₂ (nm "numbers") = some (.ref nl) := ⟨hmd, hmn⟩
    clear hle₂ hmd hmn v1 v2 v3 v4 v5 m1 m2 σ₉ hen hit g1 g2 e1 e2 e3
    repeat (walk_at "go")
    refine law_below_ok GG (by assumption) hA (by walk_at "dp") hVd Do hVn hIn (by walk_at "ar") (par := parOf rs) (hg.parOf hRows) hg.par0 hg.nodup0 ?_
    intro s₃ V₃ bl hle₃ hB₃ σ₃
    repeat (walk_at "go")
    rename_i _ oc hoc _ _ _ _ _ _ σ₄
    have hocd : V₃ (s₁.heap.objs.size + 1) = some o2 := hle₃ _ _ w1
    have hBh := hB₃.cell hocd right
    have hB₄ := hBh.mono (V' := upd V₃ (s₁.heap.objs.size + 1) oc) le_cell
    have hBn := hB₄.sub (keys' := rs.map (·.1)) fun k hk => List.mem_cons_of_mem _ hk
    refine (fun (V₄ : View) (hV₄ : V₄ = upd V₃ (s₁.heap.objs.size + 1) oc) (hle₄ : Le (hide V₃ (s₁.heap.objs.size + 1)) V₄) (c1 : V₄ (s₁.heap.objs.size + 1) = some oc) (c2 : V₄ (s₁.heap.objs.size + 1 + 1) = some o1) (hVd₄ : V₄ d = some o) (hVn₄ : V₄ nl = some (listOf vs.toArray e)) => ?_)
      _ rfl le_cell upd_same (upd_ne hcc (hle₃ _ _ w2)) (upd_ne e5.symm (hle₃ _ _ hVd)) (upd_ne e4.symm (hle₃ _ _ hVn))
    rw [← hV₄] at hB₄ hBn σ₄
    refine BelowAt.use hB₄ 0 List.mem_cons_self ?_
    intro ob kvb la us nn hVb Db hva hVl hIu
    clear hV₄ hBh hB₃ hocd hle₃ σ₃ σ₂
    replace hIu : IntsAre us (FF.map PT.num) := by rw [hF2]; exact hIu
    have hul : us.length = FF.length := by rw [hIu.length, List.length_map]
    have hFz : FF.length ≤ 10 := by
      have key : ∀ ks : List PT, ks.length ≤ (PT.pres ks).length := by
        intro ks
        induction ks with
        | nil => exact Nat.le_refl _
        | cons a r ih => rw [PT.pres, List.length_append, List.length_cons]; have := PT.pre_ne a; omega
      have := key FF
      omega
    have hpre : ∀ t ∈ FF, t.pre.length ≤ 10 := fun t ht => by
      have := PT.kid_lt (n := 0) ht
      rw [PT.pre, List.length_cons] at this
      omega
    have hSm : ∀ n ∈ rs.map (·.1), Small n := fun n hn => Small.of (hg.pos n hn).1 (hg.pos n hn).2.1
    have htl := txts_len hSm FF hF1
    refine dcItem (by assumption) hVb Db hva ?_
    intro s₅ σ₅
    refine compKI (by assumption) (wkList hA hVl) (by walk_at "ar") (fun _ => true) (fun vs ys _ => Paired (fun k v => ∃ t, v = Value.str (S (40 :: (txt k ++ [41]))) t) (FF.take vs.length) ys) (fun _ _ _ _ _ h => h) (by simpa using Paired.nil) (by decide) (by rfl) (by rfl) ?_ ?_ ?_
    · intro R₃ V₃ C mc s₃ v i hG₃ hle₃ hv σ₃ hmv
      exact wpAny_tests_nil ⟨rfl, _, hmv, σ₃⟩
    · intro R₃ V₃ C mc s₃ v i vs' ys hG₃ hle₃ hv _ σ₃ hmv hInv hi
      have G₃ := hG₃ GG
      replace hi : vs'.length = i := hi fun _ => rfl
      obtain ⟨j, tj, rfl, hj⟩ := hIu.at _ _ hv
      rw [List.getElem?_map] at hj
      obtain ⟨t, ht, hjt⟩ := Option.map_eq_some_iff.mp hj
      subst hjt
      have htm : t ∈ FF := List.mem_of_getElem? ht
      have hoc₃ : V₃ (s₁.heap.objs.size + 1) = some oc := hle₃.at c1
      have htl1 := txt_len hSm t (hF1 t htm)
      have htp := hpre t htm
      repeat (walk_at "go")
      refine law_text_ok hSm 10 t A R₃ V₃ C _ _ _ tj htp (by walk_at "ar") G₃ (by assumption) hA (by walk_at "dp") (by walk_at "dp") (hF1 t htm) (hBn.mono hle₃) ?_
      intro s₅ t₅ σ₅
      refine sAddS (by assumption) str_op rfl (by simp; omega) ?_
      intro s₆ t₆ σ₆
      repeat (walk_at "go")
      refine sAddS (by assumption) rfl str_cl (by simp; omega) ?_
      intro s₇ t₇ σ₇
      refine ⟨V₃, _, Le.refl _, ?_, σ₇⟩
      rw [List.length_append, List.length_singleton, hi, take_snoc ht]
      rw [hi] at hInv
      exact Paired.snoc hInv ⟨t₇, by simp⟩
    · intro V₅ D₅ n5 ys vs' s₆ hle₅ hD₅ hVD hlen hP hInv σ₆
      have hvs : vs' = us := list_of_get hlen hP
      subst hvs
      rw [show vs'.filter (fun _ => true) = vs' from List.filter_eq_self.mpr (by simp), hul, List.take_length] at hInv
      have hys := paired_len hInv
      repeat (walk_at "go")
      have hw : ((FF.map fun k => S (40 :: (txt k ++ [41]))).map (·.length)).sum = (txts FF).length := by
        rw [txts_flat, List.length_flatten, List.map_map, List.map_map]
        congr 1
      refine join_listW (σ₆.isList hVD) (strs_of_paired (f := fun k => S (40 :: (txt k ++ [41]))) hInv) (by rw [str_nil, S_len]; simp) (by rw [hw, List.length_map]; omega) ?_
      intro t₇ k₇
      have σ₇ := σ₆.tok (tk := k₇)
      have hjoin : Txt.join (Str.ofString "") (FF.map fun k => S (40 :: (txt k ++ [41]))) = S (txts FF) := by
        rw [str_nil, txts_flat]
        have := join_S [] (FF.map fun k => 40 :: (txt k ++ [41])) rfl
        rwa [List.map_map] at this
      rw [hjoin]
      have hxs := txts_small hg.nums FF hF1
      clear hInv hys hVD hP hlen hw hjoin σ₆ σ₅ σ₄
      have c1₅ := hle₅ _ _ c1
      have c2₅ := hle₅ _ _ c2
      have hVd₅ := hle₅ _ _ hVd₄
      have hVn₅ := hle₅ _ _ hVn₄
      have hB₅ := hB₄.mono hle₅
      have htz : (txts FF).length ≤ 240 := by omega
      repeat (walk_at "go")
      refine compKI (by assumption) (wkStr hA) (by show (txts FF).length ≤ 1000; omega) (fun _ => true) (fun vs ys _ => IntsAre ys (((txts FF).take vs.length).map fun c : Nat => (c : Int))) (fun _ _ _ _ _ h => h) (by simpa using IntsAre.nil) (by decide) (by rfl) (by rfl) ?_ ?_ ?_
      · intro R₃ V₃ C mc s₃ v i hG₃ hle₃ hv σ₃ hmv
        exact wpAny_tests_nil ⟨rfl, _, hmv, σ₃⟩
      · intro R₃ V₃ C mc s₃ v i vs' ys hG₃ hle₃ hv _ σ₃ hmv hInv hi
        have G₃ := hG₃ GG
        replace hi : vs'.length = i := hi fun _ => rfl
        obtain ⟨c, uc, hc, rfl⟩ := hv
        replace hc : (txts FF)[i]? = some c := by simpa [S] using hc
        repeat (walk_at "go")
        refine sOrd (by assumption) ?_
        intro s₄ t₄ σ₄
        refine ⟨V₃, _, Le.refl _, ?_, σ₄⟩
        rw [List.length_append, List.length_singleton, hi, take_snoc hc, List.map_append]
        rw [hi] at hInv
        exact IntsAre.append hInv (.cons _ _ .nil)
      · intro V₆ D₆ n6 ys vs' s₈ hle₆ hD₆ hVD hlen hP hInv σ₈
        rw [show vs'.filter (fun _ => true) = vs' from List.filter_eq_self.mpr (by simp), hlen] at hInv
        replace hInv : IntsAre ys ((txts FF).map fun c : Nat => (c : Int)) := by
          have e : (S (txts FF)).cps.size = (txts FF).length := S_len _
          rw [e, List.take_length] at hInv
          exact hInv
        repeat (walk_at "go")
        refine byNew hA (by assumption) hVD hInv hxs (by walk_at "ar") ?_
        intro s₉ t₉ σ₉
        repeat (walk_at "go")
        refine read_threads_ok GG (by assumption) hA (by walk_at "dp") (by walk_at "dp") hg.nums hF1 (nats_of hxs) (by rw [List.length_map]; omega) ?_
        intro s₁₀ V₁₀ nd ats n₁₀ hle₁₀ hAt hpts hVnd σ₁₀
        repeat ((fail_if_success (with_reducible show wpAny _ _ (storeName _ _ _) _ _ _)); walk_at "go")
        refine stLT (by assumption) ?_
        intro s₁₁ htk σ₁₁
        subst hpts
        have hT : Told rs ats := ⟨hF1, hF2, hF3⟩
        have c1₁ := hle₁₀ _ _ (hle₆ _ _ c1₅)
        have c2₁ := hle₁₀ _ _ (hle₆ _ _ c2₅)
        have hVd₁ := hle₁₀ _ _ (hle₆ _ _ hVd₅)
        have hVn₁ := hle₁₀ _ _ (hle₆ _ _ hVn₅)
        have hB₁ := (hB₅.mono hle₆).mono hle₁₀
        have hal : ats.length ≤ 10 := by rw [← pts_len]; exact hFz
        have hap : (AT.pres ats).length ≤ 10 := by rw [hT.len]; exact hrl10
        have hrl' : (refs ats).length = ats.length := refs_len ats
        clear hInv hxs hVD hP hlen hB₅ hB₄ hBn Db hVb hva hIu hul hVl σ₁₀ σ₉ σ₈ σ₇ c1₅ c2₅ hVd₅ hVn₅ c1 c2 hVd₄ hVn₄
        walk_at "next"
        walk_at "cons"
        refine wpTk htk ?_
        repeat (walk_at "go")
        refine compKI (by assumption) (wkList hA hVnd) (by walk_at "ar") (fun _ => true) (fun vs ys V => TupTs V ys ((ats.take vs.length).map AT.pt)) (fun _ _ _ _ hle h => TupTs.mono hle _ h) (by simpa using TupTs.nil) (by decide) (by rfl) (by rfl) ?_ ?_ ?_
        · intro R₃ V₃ C mc s₃ v i hG₃ hle₃ hv σ₃ hmv
          exact wpAny_tests_nil ⟨rfl, _, hmv, σ₃⟩
        · intro R₃ V₃ C mc s₃ v i vs' ys hG₃ hle₃ hv _ σ₃ hmv hInv hi
          have G₃ := hG₃ GG
          replace hi : vs'.length = i := hi fun _ => rfl
          obtain ⟨t, ht, rfl⟩ := refs_get hv
          have hAi := hAt.get ht
          obtain ⟨kl, ep, hNd, _⟩ := AtV.node hAi
          have hpi := pre_le ht
          repeat (walk_at "go")
          refine nodeTold G₃ (by assumption) (hNd.mono hle₃) ?_
          repeat (walk_at "go")
          refine told_ok G₃ (by assumption) hA (by walk_at "dp") (by walk_at "dp") (AtV.mono hle₃ t hAi) (by walk_at "ar") ?_
          intro s₅ V₅ v₅ hle₅ hT₅ σ₅
          refine ⟨V₅, _, hle₅, ?_, σ₅⟩
          rw [List.length_append, List.length_singleton, hi, take_snoc ht, List.map_append]
          rw [hi] at hInv
          exact TupTs.snoc hT₅ (TupTs.mono hle₅ _ hInv)
        · intro V₇ D₇ n7 ys vs' s₁₂ hle₇ hD₇ hVD₇ hlen₇ hP₇ hInv₇ σ₁₂
          rw [show vs'.filter (fun _ => true) = vs' from List.filter_eq_self.mpr (by simp), hlen₇, hrl', List.take_length, ← AT.pts_map] at hInv₇
          clear hP₇ hlen₇
          refine BelowAt.use (hB₁.mono hle₇) 0 List.mem_cons_self ?_
          intro ob kvb la us nn hVb Db hva hVl hIu
          replace hIu : IntsAre us ((AT.pts ats).map PT.num) := by rw [hF2]; exact hIu
          have hul : us.length = ats.length := by rw [hIu.length, List.length_map, pts_len]
          have hBn := (hB₁.mono hle₇).sub (keys' := rs.map (·.1)) fun k hk => List.mem_cons_of_mem _ hk
          have c1₂ := hle₇ _ _ c1₁
          repeat (walk_at "go")
          refine dcItem (by assumption) hVb Db hva ?_
          intro s₁₃ σ₁₃
          refine compKI (by assumption) (wkList hA hVl) (by walk_at "ar") (fun _ => true) (fun vs ys V => TupTs V ys ((AT.pts ats).take vs.length)) (fun _ _ _ _ hle h => TupTs.mono hle _ h) (by simpa using TupTs.nil) (by decide) (by rfl) (by rfl) ?_ ?_ ?_
          · intro R₃ V₃ C mc s₃ v i hG₃ hle₃ hv σ₃ hmv
            exact wpAny_tests_nil ⟨rfl, _, hmv, σ₃⟩
          · intro R₃ V₃ C mc s₃ v i vs' ys hG₃ hle₃ hv _ σ₃ hmv hInv hi
            have G₃ := hG₃ GG
            replace hi : vs'.length = i := hi fun _ => rfl
            obtain ⟨j, tj, rfl, hj⟩ := hIu.at _ _ hv
            rw [List.getElem?_map] at hj
            obtain ⟨t, ht, hjt⟩ := Option.map_eq_some_iff.mp hj
            subst hjt
            have htm : t ∈ AT.pts ats := List.mem_of_getElem? ht
            have hoc₃ : V₃ (s₁.heap.objs.size + 1) = some oc := hle₃.at c1₂
            repeat (walk_at "go")
            refine law_tree_ok 10 t A R₃ V₃ C _ _ _ tj (hpre t htm) (by walk_at "ar") G₃ (by assumption) hA (by walk_at "dp") (hF1 t htm) (hBn.mono hle₃) ?_
            intro s₅ V₅ v₅ hle₅ hT₅ σ₅
            refine ⟨V₅, _, hle₅, ?_, σ₅⟩
            rw [List.length_append, List.length_singleton, hi, take_snoc ht]
            rw [hi] at hInv
            exact TupTs.snoc hT₅ (TupTs.mono hle₅ _ hInv)
          · intro V₈ D₈ n8 ys2 vs' s₁₄ hle₈ hD₈ hVD₈ hlen₈ hP₈ hInv₈ σ₁₄
            rw [show vs'.filter (fun _ => true) = vs' from List.filter_eq_self.mpr (by simp), hlen₈, hul, ← pts_len, List.take_length] at hInv₈
            repeat (walk_at "go")
            refine lsNeTup (by assumption) (hle₈ _ _ hVD₇) hVD₈ (TupTs.mono hle₈ _ hInv₇) hInv₈ (by walk_at "ar") (by walk_at "ar") ?_
            repeat (walk_at "go")
            refine ifB (fun h => Bool.noConfusion h) (fun _ => ?_)
            repeat (walk_at "go")
            refine parent_numbers_ok GG (by assumption) hA (by walk_at "dp") (by walk_at "dp") (hle₈ _ _ (hle₇ _ _ hVnd)) (AtVs.mono (Le.trans hle₇ hle₈) _ hAt) (by walk_at "ar") (hT.pos hg) (hT.nodup hg) ?_
            intro s₁₅ V₉ dp op kvp hle₉ hsp hVp Dp hRp σ₁₅
            have hle₁₁ : Le V₁₀ V₉ := Le.trans hle₇ (Le.trans hle₈ hle₉)
            repeat (walk_at "go")
            refine dcNe (by assumption) hVp Dp (hle₁₁ _ _ hVd₁) Do hsp hsd (by walk_at "ar") (hT.rows_len hRp hRows) (hT.hit hg hRp hRows) ?_
            repeat (walk_at "go")
            refine ifB (fun h => Bool.noConfusion h) (fun _ => ?_)
            repeat (walk_at "go")
            refine ifB (fun h => Bool.noConfusion h) (fun _ => ?_)
            repeat (walk_at "go")
            intro htk₂
            have c1₃ := hle₁₁ _ _ c1₁
            have c2₃ := hle₁₁ _ _ c2₁
            have hVd₃ := hle₁₁ _ _ hVd₁
            have hVn₃ := hle₁₁ _ _ hVn₁
            have hAt₃ := AtVs.mono hle₁₁ _ hAt
            have hVnd₃ := hle₁₁ _ _ hVnd
            clear hInv₈ hInv₇ hVD₈ hVD₇ hP₈ hlen₈ σ₁₄ σ₁₃ σ₁₂ σ₁₁ htk hVp Dp hRp hsp hle₉ hle₈ hle₇ hVl hva Db hVb hBn c1₁ c2₁ hVd₁ hVn₁ hB₁ hAt hVnd hle₁₁ hle₁₀ hle₆ hle₅ c1₂
            walk_at "next"
            walk_at "cons"
            repeat ((fail_if_success (with_reducible show wpAny _ _ (eval (Expr.Constant (Const.str _) _ _) _) _ _ _)); walk_at "go")
            refine cnStrT (by assumption) ?_
            intro sa hsa σa
            repeat ((fail_if_success (with_reducible show wpAny _ _ (eval (Expr.Constant (Const.str _) _ _) _) _ _ _)); walk_at "go")
            refine cnStrT (by assumption) ?_
            intro sb hsb σb
            repeat (walk_at "go")
            refine wpTk (n := 1) (by walk_at "ar") ?_
            have q1 : @Ne Nat s₁₅.toks 0 := by omega
            have q2 : @Ne Nat sa.toks 0 := by omega
            have q3 : @Ne Nat s₁₅.toks sa.toks := by omega
            refine sRepl (u := s₁₅.toks) (v := sa.toks) (by assumption) q1 q2 q3 (by decide) (by walk_at "ar") rfl str_op str_sp ?_
            intro sc tc σc htk₃
            repeat ((fail_if_success (with_reducible show wpAny _ _ (eval (Expr.Constant (Const.str _) _ _) _) _ _ _)); walk_at "go")
            refine cnStrT (by assumption) ?_
            intro sd hsd2 σd
            repeat ((fail_if_success (with_reducible show wpAny _ _ (eval (Expr.Constant (Const.str _) _ _) _) _ _ _)); walk_at "go")
            refine cnStrT (by assumption) ?_
            intro se hse σe
            repeat (walk_at "go")
            have q4 : @Ne Nat sc.toks 0 := by omega
            have q5 : @Ne Nat sd.toks 0 := by omega
            have q6 : @Ne Nat sc.toks sd.toks := by omega
            refine sRepl (u := sc.toks) (v := sd.toks) (by assumption) q4 q5 q6 (by decide) (by rw [List.length_map]; omega) rfl str_cl str_sp ?_
            intro sf tf σf
            repeat (walk_at "go")
            refine sSplit (by assumption) rfl str_sp (by rw [List.length_map, List.length_map]; omega) ?_
            intro sg Dw wv ws gDw hws hsw hwl σg
            rw [List.length_map, List.length_map] at hwl
            have hwx : wordsN ((List.map (turn 40 32) (txts (AT.pts ats))).map (turn 41 32)) = ((AT.pres ats).map AT.num).map decs := hT.order hg
            have hwn : ∀ n ∈ (AT.pres ats).map AT.num, IsNum n (decs n) := fun n hn => hg.nums n (hT.nums.mem_iff.mp hn)
            refine compKUse2 (by assumption) (wkList hA upd_same) (by walk_at "ar") pz (fun v y _ => ∃ x t n t', v = Value.str x t ∧ IsNum n x.cps.toList ∧ y = .int n t') (fun _ _ _ _ _ h => h) (by decide) (by rfl) (by rfl) (by rfl) (by rfl) (by rfl) ?_ ?_ ?_
            · intro R₃ V₃ C mc s₃ v i hG₃ hle₃ hv σ₃ hmv
              have G₃ := hG₃ GG
              obtain ⟨x, tx, rfl, _⟩ := strs_at hsw hv
              refine wpAny_tests_one ?_
              repeat (walk_at "go")
              refine sNe ?_
              repeat (walk_at "go")
              exact ⟨rfl, _, hmv, by assumption⟩
            · intro R₃ V₃ C mc s₃ v i hG₃ hle₃ hv hp σ₃ hmv
              have G₃ := hG₃ GG
              obtain ⟨x, tx, n, rfl, hn⟩ := word_num hsw hws hwx hwn hv hp
              repeat (walk_at "go")
              rw [S_eta x]
              refine sInt (by assumption) hn ?_
              intro s₄ t₄ σ₄
              exact ⟨V₃, _, Le.refl _, ⟨x, tx, n, t₄, by rw [← S_eta x], hn, rfl⟩, σ₄⟩
            · intro V₁₁ Do₁₁ n11 ys vs' sh hle₁₁ hDo₁₁ hVDo hlen hP hF σh
              have hvs : vs' = wv := list_of_get hlen hP
              subst hvs
              have hOrd := words_ints hsw hws hwx hwn hF
              repeat (walk_at "go")
              have hle₁₂ : Le V₉ V₁₁ := Le.trans (Le.upd gDw (Le.refl _)) hle₁₁
              clear hP hF hlen hwx hws hsw hwl σg σf σe σd σc σb σa
              have hAt₄ := AtVs.mono hle₁₂ _ hAt₃
              have hapz : (AT.pres ats).length ≤ 1000 := by omega
              refine numbers_told_ok GG (by assumption) hA (by walk_at "dp") (by walk_at "dp") (hle₁₂ _ _ hVnd₃) hAt₄ hapz (by walk_at "ar") ?_
              intro s₂₀ V₂₀ tl n₂₀ tv hle₂₀ gtl hVtl hItl σ₂₀
              rw [hT.all_pos hg] at hItl
              repeat (walk_at "go")
              refine lsNeInts (by assumption) hVtl (hle₂₀ _ _ hVDo) hItl hOrd (by walk_at "ar") ?_
              repeat (walk_at "go")
              refine ifB (fun h => Bool.noConfusion h) (fun _ => ?_)
              repeat (walk_at "go")
              have hle₂₁ := Le.trans hle₁₂ hle₂₀
              refine all_nodes_ok GG (by assumption) hA (by walk_at "dp") (by walk_at "dp") (hle₂₁ _ _ hVnd₃) (AtVs.mono hle₂₀ _ hAt₄) hapz (by walk_at "ar") ?_
              intro s₂₁ V₂₁ al n₂₁ hle₂₂ gal hVal σ₂₁
              have hpl : (refs (AT.pres ats)).length = (AT.pres ats).length := refs_len _
              have hAt₅ := AtVs.mono hle₂₂ _ (AtVs.mono hle₂₀ _ (AtVs.pres hAt₄))
              refine compKI (by assumption) (wkList hA hVal) (by walk_at "ar") (fun _ => true) (fun vs ys _ => IntsAre ys (((AT.pres ats).take vs.length).map AT.num)) (fun _ _ _ _ _ h => h) (by simpa using IntsAre.nil) (by decide) (by rfl) (by rfl) ?_ ?_ ?_
              · intro R₃ V₃ C mc s₃ v i hG₃ hle₃ hv σ₃ hmv
                exact wpAny_tests_nil ⟨rfl, _, hmv, σ₃⟩
              · intro R₃ V₃ C mc s₃ v i vs' ys hG₃ hle₃ hv _ σ₃ hmv hInv hi
                have G₃ := hG₃ GG
                replace hi : vs'.length = i := hi fun _ => rfl
                obtain ⟨t, ht, rfl⟩ := refs_get hv
                obtain ⟨kl, ep, hNd, _⟩ := AtV.node (hAt₅.get ht)
                repeat (walk_at "go")
                refine nodeNumber G₃ (by assumption) (hNd.mono hle₃) ?_
                intro s₄ t₄ σ₄
                refine ⟨V₃, _, Le.refl _, ?_, σ₄⟩
                rw [List.length_append, List.length_singleton, hi, take_snoc ht, List.map_append]
                rw [hi] at hInv
                exact IntsAre.append hInv (.cons _ _ .nil)
              · intro V₂₂ D₂₂ n₂₂ ys2 vs' s₂₂ hle₂₃ hD₂₂ hVD₂₂ hlen hP hI₂₂ σ₂₂
                rw [show vs'.filter (fun _ => true) = vs' from List.filter_eq_self.mpr (by simp), hlen, hpl, List.take_length] at hI₂₂
                clear hP hlen
                repeat (walk_at "go")
                refine lsNeInts (by assumption) hVD₂₂ (hle₂₃ _ _ (hle₂₂ _ _ (hle₂₀ _ _ hVDo))) hI₂₂ hOrd (by walk_at "ar") ?_
                repeat (walk_at "go")
                refine ifB (fun h => Bool.noConfusion h) (fun _ => ?_)
                repeat (walk_at "go")
                refine ifB (fun h => Bool.noConfusion h) (fun _ => ?_)
                repeat (walk_at "go")
                have hle₂₄ := Le.trans hle₂₁ (Le.trans hle₂₂ hle₂₃)
                clear hVDo hOrd hVtl hItl hVal hAt₅ hAt₄ hVD₂₂ hI₂₂ σ₂₁ σ₂₀ hle₂₀ hle₂₁ hle₂₂ hle₂₃ hle₁₂ hle₁₁
                refine parent_numbers_ok GG (by assumption) hA (by walk_at "dp") (by walk_at "dp") (hle₂₄ _ _ hVnd₃) (AtVs.mono hle₂₄ _ hAt₃) (by walk_at "ar") (hT.pos hg) (hT.nodup hg) ?_
                intro s₂₃ V₂₃ dp op kvp hle₂₅ hsp hVp Dp hRp σ₂₃
                repeat (walk_at "go")
                refine numbers_told_ok GG (by assumption) hA (by walk_at "dp") (by walk_at "dp") (hle₂₅ _ _ (hle₂₄ _ _ hVnd₃)) (AtVs.mono hle₂₅ _ (AtVs.mono hle₂₄ _ hAt₃)) hapz (by walk_at "ar") ?_
                intro s₂₄ V₂₄ tl n₂₄ tv hle₂₆ gtl2 hVtl hItl σ₂₄
                rw [hT.all_pos hg] at hItl
                have hnz : ((AT.pres ats).map AT.num).length ≤ 100 := by rw [List.length_map]; omega
                repeat (walk_at "go")
                refine law_below_ok GG (by assumption) hA (by walk_at "dp") (hle₂₆ _ _ hVp) Dp hVtl hItl hnz (par := parOf rs) (hT.parOf1 hg hRp) (hT.par0 hg) (hT.nodup0 hg) ?_
                intro s₂₅ V₂₅ bl2 hle₂₇ hB2 σ₂₅
                have hle₂₈ : Le V₉ V₂₅ := Le.trans hle₂₄ (Le.trans hle₂₅ (Le.trans hle₂₆ hle₂₇))
                have c1₄ := hle₂₈ _ _ c1₃
                have c2₄ := hle₂₈ _ _ c2₃
                clear hVp Dp hRp hsp hVtl hItl σ₂₄ σ₂₃ σ₂₂ hle₂₄ hle₂₅ hle₂₆ hle₂₇
                repeat ((fail_if_success (with_reducible show wpAny _ _ (execs _ _) _ _ _)); walk_at "go")
                rename_i _ oc2 hoc2 σ₂₆
                have hB2h := (hB2.cell c2₄ left).mono (V' := upd V₂₅ (s₁.heap.objs.size + 1 + 1) oc2) le_cell
                have hAt₆ := AtVs.mono (V' := upd V₂₅ (s₁.heap.objs.size + 1 + 1) oc2) le_cell _ (AtVs.cell c2₄ left _ (AtVs.mono hle₂₈ _ hAt₃))
                refine (fun (V₂₆ : View) (hV₂₆ : V₂₆ = upd V₂₅ (s₁.heap.objs.size + 1 + 1) oc2) (c2₅ : V₂₆ (s₁.heap.objs.size + 1 + 1) = some oc2) (hVnd₅ : V₂₆ nd = some (listOf (refs ats).toArray n₁₀)) (hVd₅ : V₂₆ d = some o) (hVn₅ : V₂₆ nl = some (listOf vs.toArray e)) => ?_)
                  _ rfl upd_same (upd_ne (cell_ne_list c2₄ left (hle₂₈ _ _ hVnd₃)) (hle₂₈ _ _ hVnd₃)) (upd_ne e7.symm (hle₂₈ _ _ hVd₃)) (upd_ne e6.symm (hle₂₈ _ _ hVn₃))
                rw [← hV₂₆] at hB2h hAt₆ σ₂₆
                refine BelowAt.use hB2h 0 List.mem_cons_self ?_
                intro ob kvb la us nn hVb Db hva hVl hIu
                replace hIu : IntsAre us ((AT.pts ats).map PT.num) := by rw [← hT.again0 hg]; exact hIu
                have hul : us.length = ats.length := by rw [hIu.length, List.length_map, pts_len]
                have hBn := hB2h.sub (keys' := (AT.pres ats).map AT.num) fun k hk => List.mem_cons_of_mem _ hk
                have hAg := hT.again hg
                clear hV₂₆ hB2 σ₂₅ c1₄ c2₄ hle₂₈ hAt₃ hVnd₃ hVd₃ hVn₃ c1₃ c2₃
                repeat (walk_at "go")
                refine dcItem (by assumption) hVb Db hva ?_
                intro s₂₇ σ₂₇
                refine compKI (by assumption) (wkList hA hVl) (by walk_at "ar") (fun _ => true) (fun vs ys V => TupTs V ys ((AT.pts ats).take vs.length)) (fun _ _ _ _ hle h => TupTs.mono hle _ h) (by simpa using TupTs.nil) (by decide) (by rfl) (by rfl) ?_ ?_ ?_
                · intro R₃ V₃ C mc s₃ v i hG₃ hle₃ hv σ₃ hmv
                  exact wpAny_tests_nil ⟨rfl, _, hmv, σ₃⟩
                · intro R₃ V₃ C mc s₃ v i vs' ys hG₃ hle₃ hv _ σ₃ hmv hInv hi
                  have G₃ := hG₃ GG
                  replace hi : vs'.length = i := hi fun _ => rfl
                  obtain ⟨j, tj, rfl, hj⟩ := hIu.at _ _ hv
                  rw [List.getElem?_map] at hj
                  obtain ⟨t, ht, hjt⟩ := Option.map_eq_some_iff.mp hj
                  subst hjt
                  have htm : t ∈ AT.pts ats := List.mem_of_getElem? ht
                  have hoc₃ : V₃ (s₁.heap.objs.size + 1 + 1) = some oc2 := hle₃.at c2₅
                  repeat (walk_at "go")
                  refine law_tree_ok 10 t A R₃ V₃ C _ _ _ tj (hpre t htm) (by walk_at "ar") G₃ (by assumption) hA (by walk_at "dp") (hAg t htm) (hBn.mono hle₃) ?_
                  intro s₅ V₅ v₅ hle₅ hT₅ σ₅
                  refine ⟨V₅, _, hle₅, ?_, σ₅⟩
                  rw [List.length_append, List.length_singleton, hi, take_snoc ht]
                  rw [hi] at hInv
                  exact TupTs.snoc hT₅ (TupTs.mono hle₅ _ hInv)
                · intro V₂₇ D₂₇ n27 ys vs' s₂₈ hle₂₇ hD₂₇ hVD₂₇ hlen hP hInv₂₇ σ₂₈
                  rw [show vs'.filter (fun _ => true) = vs' from List.filter_eq_self.mpr (by simp), hlen, hul, ← pts_len, List.take_length] at hInv₂₇
                  clear hP hlen
                  have hAt₇ := AtVs.mono hle₂₇ _ hAt₆
                  have hVnd₆ := hle₂₇ _ _ hVnd₅
                  repeat (walk_at "go")
                  refine compKI (by assumption) (wkList hA hVnd₆) (by walk_at "ar") (fun _ => true) (fun vs ys V => TupTs V ys ((ats.take vs.length).map AT.pt)) (fun _ _ _ _ hle h => TupTs.mono hle _ h) (by simpa using TupTs.nil) (by decide) (by rfl) (by rfl) ?_ ?_ ?_
                  · intro R₃ V₃ C mc s₃ v i hG₃ hle₃ hv σ₃ hmv
                    exact wpAny_tests_nil ⟨rfl, _, hmv, σ₃⟩
                  · intro R₃ V₃ C mc s₃ v i vs' ys hG₃ hle₃ hv _ σ₃ hmv hInv hi
                    have G₃ := hG₃ GG
                    replace hi : vs'.length = i := hi fun _ => rfl
                    obtain ⟨t, ht, rfl⟩ := refs_get hv
                    have hAi := hAt₇.get ht
                    obtain ⟨kl, ep, hNd, _⟩ := AtV.node hAi
                    have hpi := pre_le ht
                    repeat (walk_at "go")
                    refine nodeTold G₃ (by assumption) (hNd.mono hle₃) ?_
                    repeat (walk_at "go")
                    refine told_ok G₃ (by assumption) hA (by walk_at "dp") (by walk_at "dp") (AtV.mono hle₃ t hAi) (by walk_at "ar") ?_
                    intro s₅ V₅ v₅ hle₅ hT₅ σ₅
                    refine ⟨V₅, _, hle₅, ?_, σ₅⟩
                    rw [List.length_append, List.length_singleton, hi, take_snoc ht, List.map_append]
                    rw [hi] at hInv
                    exact TupTs.snoc hT₅ (TupTs.mono hle₅ _ hInv)
                  · intro V₂₈ D₂₈ n28 ys2 vs' s₂₉ hle₂₈ hD₂₈ hVD₂₈ hlen hP hInv₂₈ σ₂₉
                    rw [show vs'.filter (fun _ => true) = vs' from List.filter_eq_self.mpr (by simp), hlen, hrl', List.take_length, ← AT.pts_map] at hInv₂₈
                    clear hP hlen
                    repeat (walk_at "go")
                    refine lsNeTup (by assumption) (hle₂₈ _ _ hVD₂₇) hVD₂₈ (TupTs.mono hle₂₈ _ hInv₂₇) hInv₂₈ (by walk_at "ar") (by walk_at "ar") ?_
                    repeat (walk_at "go")
                    refine ifB (fun h => Bool.noConfusion h) (fun _ => ?_)
                    repeat (walk_at "go")
                    have hle₂₉ := Le.trans hle₂₇ hle₂₈
                    have hAt₈ := AtVs.mono hle₂₉ _ hAt₆
                    have hVnd₇ := hle₂₉ _ _ hVnd₅
                    have hVd₇ := hle₂₉ _ _ hVd₅
                    have hVn₇ := hle₂₉ _ _ hVn₅
                    clear hInv₂₈ hInv₂₇ hVD₂₈ hVD₂₇ σ₂₈ σ₂₇ σ₂₆ hle₂₈ hle₂₇ hle₂₉ hVl hva Db hVb hBn hB2h hAt₇ hAt₆ hVnd₆ hVnd₅ hVd₅ hVn₅ c2₅
                    have hnl' : vs.length ≤ 10 := by omega
                    refine forK (by assumption) (wkList hA hVn₇) (Le.refl _) (fun j V' m' => Le V₂₈ V' ∧ m' (nm "nodes") = some (.ref nd) ∧ m' (nm "above_of") = some (.ref d)) (fun _ _ _ h => h.1) ⟨Le.refl _, by walk_at "look", by walk_at "look"⟩ ?_ ?_
                    · intro R₃ V₃ m₃ s₃ i v hG₃ back₃ hv hi hJ σ₃
                      obtain ⟨hle₃, hmn₃, hmd₃⟩ := hJ
                      have G₃ := hG₃ GG
                      obtain ⟨j, tj, rfl, hj⟩ := hIn.at _ _ hv
                      have hjm : j ∈ rs.map (·.1) := List.mem_of_getElem? hj
                      obtain ⟨t, ht, hfd, hTop⟩ := hT.top hg hjm
                      obtain ⟨q, hq⟩ := List.getElem?_of_mem ht
                      have hAt' := AtVs.mono hle₃ _ hAt₈
                      obtain ⟨kl, ep, hNd, _⟩ := AtV.node (hAt'.get hq)
                      repeat (walk_at "go")
                      refine thread_with_ok G₃ (by assumption) hA (by walk_at "dp") (by walk_at "dp") (hle₃ _ _ hVnd₇) hAt' hapz (by walk_at "ar") ?_
                      intro s₄ V₄ hle₄ σ₄
                      rw [hfd]
                      repeat (walk_at "go")
                      refine ifB (fun h => Bool.noConfusion (show false = true from h)) (fun _ => ?_)
                      repeat (walk_at "go")
                      refine nodeNumber G₃ (by assumption) (hNd.mono hle₄) ?_
                      intro s₅ t₅ σ₅
                      repeat (walk_at "go")
                      refine law_top_ok G₃ (by assumption) hA (by walk_at "dp") (hle₄ _ _ (hle₃ _ _ hVd₇)) Do (hg.parOf hRows) (fun n hn h0 => (hg.par_in n hn).resolve_left h0) hjm hTop ?_
                      intro s₆ t₆ σ₆
                      repeat (walk_at "go")
                      refine ifB (fun h => absurd h (by simp)) (fun _ => ?_)
                      repeat (walk_at "go")
                      refine ifB (fun h => Bool.noConfusion h) (fun _ => ?_)
                      repeat (walk_at "go")
                      refine ⟨_, _, ?_, by assumption⟩
                      exact ⟨Le.trans hle₃ hle₄, by walk_at "look", by walk_at "look"⟩
                    · intro V₃ m₃ s₃ hJ σ₃
                      obtain ⟨hle₃, hmn₃, hmd₃⟩ := hJ
                      have hAt' := AtVs.mono hle₃ _ hAt₈
                      have hVnd' := hle₃ _ _ hVnd₇
                      repeat (walk_at "go")
                      refine thread_with_ok GG (by assumption) hA (by walk_at "dp") (by walk_at "dp") hVnd' hAt' hapz (by walk_at "ar") ?_
                      intro s₄ V₄ hle₄ σ₄
                      rw [hT.none hg (.inr rfl)]
                      repeat (walk_at "go")
                      refine ifB (fun _ => ?_) (fun h => Bool.noConfusion (show true = false from h))
                      repeat (walk_at "go")
                      refine thread_with_ok GG (by assumption) hA (by walk_at "dp") (by walk_at "dp") (hle₄ _ _ hVnd') (AtVs.mono hle₄ _ hAt') hapz (by walk_at "ar") ?_
                      intro s₅ V₅ hle₅ σ₅
                      rw [hT.none hg (.inl rfl)]
                      repeat (walk_at "go")
                      exact ⟨rfl, _, _, by assumption⟩


end Mine

theorem PySem.Challenge.cw_or0037_01_holds : PySem.Challenge.rw_or0037_01.Holds := by
  exact Mine.law_holds
