import PyProof.Rows.All
import Wide.All
import OpenK.AllK
import Wide.FinOn
import PyProof.ExcClass2
import PyProof.ExcBaseAll.Exception
import PySem.Challenge.RW_pf0009_01
set_option Elab.async false
set_option linter.all false

section
open PySem PySem.W PyProof.Rows
namespace Mine
/-- the run of the text's top over a tree of objects, by the library's quick step -/
noncomputable def runT (p : Program) (w : World) (n₀ : Nat) (ann : Option Value) : Nat → SharedT → Thread → Option SharedT
  | 0, _, _ => none
  | n + 1, s, t => match through t with
    | true => some s
    | false => match PySem.W.Fast.tw6613529449190102663 n₀ ann t with
      | false => none
      | true => match PySem.W.Fast.tw10156331382660048174 (PySem.W.Fast.tw11892475500146522536 PySem.W.Fast.tw14364793385576792824) p w s t with
        | some (s', t') => runT p w n₀ ann n s' t'
        | none => none
theorem run_of {p : Program} {w : World} {n₀ : Nat} {ann : Option Value} : ∀ {n : Nat} {s s' : SharedT} {t : Thread}, runT p w n₀ ann n s t = some s' → topRun treeTable p w n₀ ann n s.abs t = some s'.abs
  | 0, _, _, _, h => nomatch h
  | n + 1, s, s', t, h => by
    unfold runT at h
    unfold topRun
    rw [← PySem.W.Fast.te6613529449190102663, ← PySem.W.Fast.te10156331382660048174, ← PySem.W.Fast.te11892475500146522536, ← PySem.W.Fast.te14364793385576792824] at h
    cases ht : through t with
    | true => rw [ht] at h; cases h; rfl
    | false =>
      rw [ht] at h
      cases hk : stepOk n₀ ann t with
      | false => rw [hk] at h; cases h
      | true =>
        rw [hk] at h
        cases hs : stepT (denote treeTable) p w s t with
        | none => rw [hs] at h; cases h
        | some r => obtain ⟨s₂, t₂⟩ := r; rw [hs] at h; rw [stepT_spec hs]; exact run_of h
/-- the tree of a list of objects -/
noncomputable def buildC : List Obj → BT → Nat → Option BT
  | [], t, _ => some t
  | o :: l, t, n => match ((t.ins n o).get n).isSome with
    | true => buildC l (t.ins n o) (n + 1)
    | false => none
theorem build_of {life : Life} : ∀ {l : List Obj} {t T : BT} {n : Nat}, buildC l t n = some T → absHeap T (n + l.length) life = ⟨(absHeap t n life).objs ++ l.toArray, life⟩
  | [], t, T, n, h => by
    injection h with h
    subst h
    show absHeap t n life = _
    simp [absHeap]
  | o :: l, t, T, n, h => by
    unfold buildC at h
    cases hg : ((t.ins n o).get n).isSome with
    | false => rw [hg] at h; cases h
    | true =>
      rw [hg] at h
      have ih := build_of (life := life) h
      rw [absHeap_ins hg] at ih
      rw [show n + (o :: l).length = n + 1 + l.length by rw [List.length_cons]; omega, ih]
      congr 1
      apply Array.toList_inj.mp
      simp [Heap.push]
theorem shared_build {s : Shared} {T : BT} (h : buildC s.heap.objs.toList .nil 0 = some T) : (SharedT.mk T s.heap.objs.size s.heap.life s.gens s.drawn s.toks s.os).abs = s := by
  have b := build_of (life := s.heap.life) h
  rw [Nat.zero_add, Array.length_toList] at b
  unfold SharedT.abs
  dsimp only
  rw [b]
  simp [absHeap, BT.list]
noncomputable def fromT (p : Program) (w : World) (N : Nat) (s₀ : Shared) : Option Shared :=
  match s₀.heap.isNs mainGlobals && s₀.gens.size == 0 with
  | true => match buildC s₀.heap.objs.toList .nil 0 with
    | some T => (runT p w s₀.heap.objs.size (s₀.heap.nsMap mainGlobals "__annotations__") N ⟨T, s₀.heap.objs.size, s₀.heap.life, s₀.gens, s₀.drawn, s₀.toks, s₀.os⟩ (topStub p)).bind fun s₁ =>
      match staticsOk (importedModules p.main.body) s₀.heap s₁.abs.heap && namesBound p s₁.abs.heap && gensDone s₁.abs && laidKept s₀.heap s₁.abs.heap with
      | true => some s₁.abs
      | false => none
    | none => none
  | false => none
theorem from_of {p : Program} {w : World} {N : Nat} {s₀ s : Shared} (h : fromT p w N s₀ = some s) : topFrom treeTable p w N s₀ = some s := by
  unfold fromT at h
  unfold topFrom
  cases h1 : s₀.heap.isNs mainGlobals && s₀.gens.size == 0 with
  | false => rw [h1] at h; cases h
  | true =>
    rw [h1] at h
    cases h2 : buildC s₀.heap.objs.toList .nil 0 with
    | none => rw [h2] at h; cases h
    | some T =>
      rw [h2] at h
      dsimp only at h ⊢
      obtain ⟨s₁, r1, r2⟩ := Option.bind_eq_some_iff.mp h
      have r := run_of r1
      rw [shared_build h2] at r
      rw [r]
      exact r2
noncomputable def endsT (p : Program) (w : World) (N : Nat) : Option Shared := (fencedOpening treeTable p w N).bind (fromT p w N)
theorem map_of {α : Type} {p : Program} {w : World} {N : Nat} {f : Shared → α} {x : α} (h : (endsT p w N).map f = some x) : (openEnds treeTable p w N).map f = some x := by
  obtain ⟨s, e, rfl⟩ := Option.map_eq_some_iff.mp h
  obtain ⟨s₀, e1, e2⟩ := Option.bind_eq_some_iff.mp e
  unfold openEnds
  rw [e1]
  show (topFrom treeTable p w N s₀).map f = _
  rw [from_of e2]
  rfl
/-- the text without the seven rows that name its parts -/
noncomputable def vw : Program := PySem.W.view PySem.Challenge.pw_pf0009_01 ((List.range 62).filter fun i => !([0, 14, 27, 41, 45, 53, 55] : List Nat).contains i)
noncomputable def xt (s : Shared) : Bool := xlAt vw [] s && recOk (RowW.records (OpenRow.toRowW PySem.Challenge.rw_pf0009_01.row)) s
theorem both_map {α β γ : Type} {o : Option α} {f : α → β} {g : α → γ} {b : β} {c : γ} (h1 : o.map f = some b) (h2 : o.map g = some c) : o.map (fun s => (f s, g s)) = some (b, c) := by
  cases o with
  | none => cases h1
  | some s =>
    injection h1 with e1
    injection h2 with e2
    subst e1 e2
    rfl
set_option maxRecDepth 100000 in
theorem seen_ok (w : World) : (openEnds treeTable PySem.Challenge.pw_pf0009_01 w 4332).map (openSeen vw [PySem.Str.ofString "BasicError"] (importedModules PySem.Challenge.pw_pf0009_01.main.body) xt true) = some (openGood vw [PySem.Str.ofString "BasicError"]) := by
  refine map_of ?_
  rw [PySem.W.Fast.te4187177175401517315]
  kernel_rfl
structure Two (A B : Prop) : Prop where
  hw : A
  hc : B
theorem two_go {A B C : Prop} (f : A → B → C) (t : Two A B) : C := f t.hw t.hc
theorem left_of {α : Type} {Yf : Shared → α} {Ya : World → α} (h : ∀ w, (openEnds treeTable PySem.Challenge.pw_pf0009_01 w 4332).map Yf = some (Ya w)) :
    LeftO PySem.Challenge.pw_pf0009_01 vw [PySem.Str.ofString "BasicError"] xt Yf Ya 4332 := fun w => both_map (seen_ok w) (h w)
set_option maxRecDepth 100000 in
theorem row_ok : PySem.W.OpenLaw.wellSaid PySem.Challenge.rw_pf0009_01 = true := by
  rw [PySem.W.Fast.te9446332074065402090]
  decide +kernel
local macro_rules | `(tactic| o_law) => `(tactic| (refine PySem.W.holds_law row_ok fun said => ?_))
local macro_rules | `(tactic| k_qdec) => `(tactic| decide +kernel)
local macro_rules | `(tactic| o_head $H) => `(tactic| (
  refine two_go (PySem.W.holds_open (q := vw) (loose := [PySem.Str.ofString "BasicError"]) (Xt := xt) (XP := XL vw []) (Yf := Hook.obs $H) (Ya := Hook.val $H) (YP := Hook.says $H) (N := 4332) (left_of ?hl) (Hook.of $H) (Hook.keeps $H) (fun s e => xl_of s (Bool.and_eq_true_iff.mp e).1) XL.keeps (by rfl) (by rfl) (by rfl) (fun s e => recFacts_of (Bool.and_eq_true_iff.mp e).2) (by rfl) ?h4 ?h5 ⟨rfl, rfl, rfl, rfl, rfl, ?h6⟩) ?_
  (case h4 => first | assumption | decide +kernel)
  (case h5 => decide +kernel)
  (case h6 => decide +kernel)
  (case hl => intro w; refine map_of ?_; kernel_rfl)
  constructor))
set_option maxRecDepth 100000 in
set_option maxHeartbeats 8000000 in
open_top hd for PySem.Challenge.rw_pf0009_01
end Mine
end
open PySem PySem.W PyProof.Rows
namespace Mine
local macro_rules | `(tactic| walk_at "call ref") => `(tactic| k_extra "call ref")
local macro_rules | `(tactic| walk_at "binaryOp FloorDiv int int") => `(tactic| k_extra "binaryOp FloorDiv int int")
local macro_rules | `(tactic| walk_at "binaryOp Mult int int") => `(tactic| k_extra "binaryOp Mult int int")
local macro_rules | `(tactic| walk_at "binaryOp Pow int int") => `(tactic| k_extra "binaryOp Pow int int")
local macro_rules | `(tactic| walk_at "compareOp NotEq ref ref") => `(tactic| k_extra "compareOp NotEq ref ref")
local macro_rules | `(tactic| walk_at "subscriptTail") => `(tactic| k_extra "subscriptTail")
local macro_rules | `(tactic| walk_at "getAttr ref") => `(tactic| k_extra "getAttr ref")
local macro_rules | `(tactic| walk_at "compareOp Eq str str") => `(tactic| k_extra "compareOp Eq str str")
local macro_rules | `(tactic| walk_at "exec Assign cons ListComp") => `(tactic| k_extra "exec Assign cons ListComp")
local macro_rules | `(tactic| walk_at "eval ListComp") => `(tactic| k_extra "eval ListComp")
local macro_rules | `(tactic| walk_at "TupSrc") => `(tactic| k_extra "TupSrc")
local macro_rules | `(tactic| walk_at "CompEnd") => `(tactic| k_extra "CompEnd")
local macro_rules | `(tactic| walk_at "compareOp In str ref") => `(tactic| k_extra "compareOp In str ref")
local macro_rules | `(tactic| walk_at "exec Raise some none") => `(tactic| k_extra "exec Raise some none")
local macro_rules | `(tactic| walk_at "call type:range") => `(tactic| k_extra "call type:range")
local macro_rules | `(tactic| walk_at "call builtin:repr") => `(tactic| k_extra "call builtin:repr")
local macro_rules | `(tactic| walk_at "compareOp NotEq str str") => `(tactic| k_extra "compareOp NotEq str str")
local macro_rules | `(tactic| walk_at "call builtin:min") => `(tactic| k_extra "call builtin:min")
local macro_rules | `(tactic| walk_at "call builtin:max") => `(tactic| k_extra "call builtin:max")
local macro_rules | `(tactic| walk_at "call builtin:list.index") => `(tactic| k_extra "call builtin:list.index")
local macro_rules | `(tactic| walk_at "subscriptTail Name Call ref int") => `(tactic| k_extra "subscriptTail Name Call ref int")
local macro_rules | `(tactic| k_qdec) => `(tactic| decide +kernel)

section
open PySem PySem.W PyProof.Rows
/-- What calling the def at f with vs hands back, whoever calls it: from a ledger `news` to a value and a ledger. -/
def Con (k : Nat) (f : Addr) (vs : List Value) (news : List (Addr × Obj)) (R : Value → List (Addr × Obj) → Prop) : Prop :=
  ∀ (w : World) (mean : ExcName → Option Value) (mg mb : Str → Option Value) (dp un : Nat) (gd : Option (List Code)) (cn : Str) (cs : Scope) (a : Addr) (ccd : Value) (cl : List (Str × Addr)) (outer : List Env) (A₀ : Around) (base h₀ : Heap) (L : Addr) (m : Str → Option Value) (s : Shared)
    (Q E : Value → Shared → Prop),
    Below A₀ base outer h₀ → Fr h₀ L s.heap m → (Mine.hd.heap_1 w.params).In h₀ → News h₀ L s.heap news → Top Mine.vw (looseW Mine.vw [Str.ofString "BasicError"]) mean mg mb h₀ → cs.kind = .function →
    dp + k < recursionLimit → un + 8 * k < cLine →
    (∀ r news' h' tk', Fr h₀ L h' m → News h₀ L h' news' → R r news' → Q r { s with heap := h', toks := tk' }) →
    wpAny (model PySem.Challenge.rw_pf0009_01.row.prog w) (ktrTop dp un gd cn cs L a ccd cl outer) (call (.ref f) vs) Q E s

theorem Con.use {k : Nat} {f : Addr} {vs : List Value} {news : List (Addr × Obj)} {R : Value → List (Addr × Obj) → Prop} {w : World} {mean : ExcName → Option Value} {mg mb : Str → Option Value} {dp un : Nat} {gd : Option (List Code)} {cn : Str} {cs : Scope} {a : Addr} {ccd : Value} {cl : List (Str × Addr)} {outer : List Env} {A₀ : Around} {base h₀ : Heap} {L : Addr} {m : Str → Option Value} {s : Shared}
    {Q E : Value → Shared → Prop} (B : Below A₀ base outer h₀) (F : Fr h₀ L s.heap m) (X : (Mine.hd.heap_1 w.params).In h₀) (N : News h₀ L s.heap news) (T : Top Mine.vw (looseW Mine.vw [Str.ofString "BasicError"]) mean mg mb h₀) (hk : cs.kind = .function)
    (C : Con k f vs news R) (hd : dp + k < recursionLimit) (hu : un + 8 * k < cLine)
    (ret : ∀ r news' h' tk', Fr h₀ L h' m → News h₀ L h' news' → R r news' → Q r { s with heap := h', toks := tk' }) :
    wpAny (model PySem.Challenge.rw_pf0009_01.row.prog w) (ktrTop dp un gd cn cs L a ccd cl outer) (call (.ref f) vs) Q E s :=
  C _ _ _ _ _ _ _ _ _ _ _ _ _ _ _ _ _ _ _ _ _ B F X N T hk hd hu ret

theorem news_sub {h₀ h : Heap} {L : Addr} {news news' : List (Addr × Obj)} (N : News h₀ L h news') (hs : ∀ p ∈ news, p ∈ news') : News h₀ L h news := fun p hp => N p (hs p hp)

theorem sub_same {x : Addr × Obj} {news : List (Addr × Obj)} : ∀ p ∈ x :: news, p ∈ x :: news := fun _ h => h
theorem sub_mid {x y : Addr × Obj} {news : List (Addr × Obj)} : ∀ p ∈ x :: news, p ∈ x :: y :: news := fun p h => by
  rcases List.mem_cons.mp h with rfl | h
  · exact .head _
  · exact .tail _ (.tail _ h)
theorem all_lt_at {d : Addr} : ∀ {l : List (Addr × Obj)}, AllLt d l → ∀ p ∈ l, p.1 < d
  | [], _, _, h => nomatch h
  | q :: r, h, p, hp => by
    rcases List.mem_cons.mp hp with e | hp
    · rw [e]; exact h.1
    · exact all_lt_at h.2 p hp
theorem pow_up (k : Int) (hk : 1 ≤ k) : accUp (fun (_ : Int) (x : Int) => x * 10) 1 10 k = 10 ^ k.toNat := by
  refine accUp_eq (P := fun k => 10 ^ k.toNat) hk (by decide) fun j h1 _ => ?_
  show (10 : Int) ^ (j + 1).toNat = 10 ^ j.toNat * 10
  rw [show (j + 1).toNat = j.toNat + 1 by omega, Int.pow_succ]

theorem pow_mono {a b : Nat} (h : a ≤ b) : (10 : Int) ^ a ≤ 10 ^ b := by
  have := Nat.pow_le_pow_right (n := 10) (by decide) h
  exact_mod_cast this
theorem pow_pos' (a : Nat) : (0 : Int) < 10 ^ a := by
  have := Nat.pow_pos (n := a) (show 0 < 10 by decide)
  exact_mod_cast this

/-- what figures_of hands back -/
structure Figs (x n : Int) : Prop where
  one : 1 ≤ n
  up : x < 10 ^ n.toNat
  low : n = 1 ∨ 10 ^ (n - 1).toNat ≤ x

theorem Figs.le {x n : Int} (h : Figs x n) {k : Nat} (hk : 1 ≤ k) (hx : x < 10 ^ k) : n ≤ k := by
  rcases h.low with h1 | h1
  · omega
  · rcases Int.lt_or_le (k : Int) n with h2 | h2
    · have h3 := pow_mono (show k ≤ (n - 1).toNat by omega)
      omega
    · exact h2

theorem figs_of {x k : Int} (h1 : 1 ≤ k) (h2 : ∀ j : Int, 1 ≤ j → j < k → decide (accUp (fun (_ : Int) (x : Int) => x * 10) 1 10 j ≤ x) = true) (h3 : decide (accUp (fun (_ : Int) (x : Int) => x * 10) 1 10 k ≤ x) = false) : Figs x k := by
  refine ⟨h1, ?_, ?_⟩
  · rw [pow_up k h1] at h3
    have := of_decide_eq_false h3
    omega
  · by_cases h : k = 1
    · exact .inl h
    · right
      have := of_decide_eq_true (h2 (k - 1) (by omega) (by omega))
      rwa [pow_up (k - 1) (by omega)] at this
theorem rd_A {x u : Int} (hx : 0 ≤ x) (hu : 0 < u) : 0 ≤ (0 : Int) ∧ 0 * u < x + u := ⟨Int.le_refl _, by rw [Int.zero_mul]; omega⟩
theorem rd_B {x u : Int} (hx : 0 ≤ x) (hu : 0 < u) : 0 ≤ x.fdiv u ∧ x.fdiv u * u < x + u := by
  have h1 := Int.mul_fdiv_add_fmod x u
  have h2 := Int.fmod_nonneg hx (Int.le_of_lt hu)
  have h3 : 0 ≤ x.fdiv u := Int.fdiv_nonneg hx (Int.le_of_lt hu)
  have h4 : u * x.fdiv u = x.fdiv u * u := Int.mul_comm _ _
  exact ⟨h3, by omega⟩
theorem rd_C {x u : Int} (hx : 0 ≤ x) (hu : 0 < u) (hr : 0 < x.fmod u) : 0 ≤ x.fdiv u + 1 ∧ (x.fdiv u + 1) * u < x + u := by
  have h1 := Int.mul_fdiv_add_fmod x u
  have h3 : 0 ≤ x.fdiv u := Int.fdiv_nonneg hx (Int.le_of_lt hu)
  have h4 : u * x.fdiv u = x.fdiv u * u := Int.mul_comm _ _
  have h5 : (x.fdiv u + 1) * u = x.fdiv u * u + u := by rw [Int.add_mul, Int.one_mul]
  exact ⟨by omega, by omega⟩
theorem pylong10 {x n : Int} (h : n ≤ 12) : Builtin.divisionGoesByPylong x ((10 : Int) ^ n.toNat) = false := by
  refine PyProof.noPylong_of_log2 ?_
  have h1 := pow_mono (show n.toNat ≤ 12 by omega)
  have h2 := pow_pos' n.toNat
  have h3 : ((10 : Int) ^ n.toNat).natAbs < 2 ^ 60 := by omega
  have h4 := (Nat.log2_lt (by omega)).mpr h3
  omega
theorem rd_le {n x u : Int} (hx : 0 ≤ x) (hu : 0 < u) (h : n * u < x + u) : n ≤ x := by
  rcases Int.lt_or_le x n with h1 | h1
  · have h2 : (x + 1) * u ≤ n * u := Int.mul_le_mul_of_nonneg_right (by omega) (by omega)
    have h3 : (x + 1) * u = x * u + u := by rw [Int.add_mul, Int.one_mul]
    have h4 : x * 1 ≤ x * u := Int.mul_le_mul_of_nonneg_left (by omega) hx
    omega
  · exact h1
theorem rd_fit {n x : Int} {a b : Nat} (hx : x ≤ 10 ^ (a + b)) (h : n * 10 ^ b < x + 10 ^ b) : n * 10 ^ b ≤ 10 ^ (a + b) := by
  have h1 := pow_pos' b
  have h2 : (10 : Int) ^ (a + b) = 10 ^ a * 10 ^ b := Int.pow_add _ _ _
  have h3 : n * 10 ^ b < (10 ^ a + 1) * 10 ^ b := by rw [Int.add_mul, Int.one_mul]; omega
  have h4 : n < 10 ^ a + 1 := Int.lt_of_mul_lt_mul_right h3 (by omega)
  rw [h2]
  exact Int.mul_le_mul_of_nonneg_right (by omega) (by omega)
theorem rd_A3 {x u : Int} (hx : 0 ≤ x) (hu : 0 < u) : 0 ≤ (0 : Int) ∧ 0 * u < x + u ∧ 0 ≤ x := ⟨(rd_A hx hu).1, (rd_A hx hu).2, hx⟩
theorem rd_B3 {x u : Int} (hx : 0 ≤ x) (hu : 0 < u) : 0 ≤ x.fdiv u ∧ x.fdiv u * u < x + u ∧ x.fdiv u ≤ x := ⟨(rd_B hx hu).1, (rd_B hx hu).2, rd_le hx hu (rd_B hx hu).2⟩
theorem rd_C3 {x u : Int} (hx : 0 ≤ x) (hu : 0 < u) (hr : 0 < x.fmod u) : 0 ≤ x.fdiv u + 1 ∧ (x.fdiv u + 1) * u < x + u ∧ x.fdiv u + 1 ≤ x := ⟨(rd_C hx hu hr).1, (rd_C hx hu hr).2, rd_le hx hu (rd_C hx hu hr).2⟩
/-- a decimal that the law keeps -/
structure DecOk (c e : Int) : Prop where
  lo : -3 ≤ e
  hi : e ≤ 9
  up : c * 10 ^ (e + 3).toNat ≤ 10 ^ 9
  dn : -10 ^ 9 ≤ c * 10 ^ (e + 3).toNat
theorem Figs.le7 {x n : Int} (h : Figs x n) (hx : x ≤ 10 ^ 6) : n ≤ 7 := h.le (k := 7) (by decide) (by omega)
theorem DecOk.zero : DecOk 0 0 := ⟨by omega, by omega, by decide, by decide⟩
theorem DecOk.neg {c e : Int} (h : DecOk c e) : DecOk (-c) e := ⟨h.lo, h.hi, by have := h.dn; rw [Int.neg_mul]; omega, by have := h.up; rw [Int.neg_mul]; omega⟩
theorem DecOk.big {c e : Int} (h : DecOk c e) : -10 ^ 9 ≤ c ∧ c ≤ 10 ^ 9 := by
  have h1 := h.up
  have h2 := h.dn
  have h3 := pow_pos' (e + 3).toNat
  rcases Int.lt_or_le c 0 with h4 | h4
  · have h5 : (-c) * 1 ≤ (-c) * 10 ^ (e + 3).toNat := Int.mul_le_mul_of_nonneg_left (by omega) (by omega)
    rw [Int.neg_mul, Int.neg_mul] at h5
    omega
  · have h5 : c * 1 ≤ c * 10 ^ (e + 3).toNat := Int.mul_le_mul_of_nonneg_left (by omega) h4
    omega
theorem DecOk.of {c e : Int} (h0 : 0 ≤ c) (h1 : 1 ≤ c) (h2 : -3 ≤ e) (h3 : c * 10 ^ (e + 3).toNat ≤ 10 ^ 9) : DecOk c e := by
  refine ⟨h2, ?_, h3, ?_⟩
  · rcases Int.lt_or_le 9 e with h4 | h4
    · have h5 := pow_mono (show 13 ≤ (e + 3).toNat by omega)
      have h6 : 1 * 10 ^ (e + 3).toNat ≤ c * 10 ^ (e + 3).toNat := Int.mul_le_mul_of_nonneg_right h1 (by omega)
      omega
    · exact h4
  · have := pow_pos' (e + 3).toNat
    have := Int.mul_nonneg h0 (Int.le_of_lt this)
    omega
/-- the word of made's loop -/
def Strip (s0 e0 s e : Int) : Prop := 1 ≤ s ∧ e0 ≤ e ∧ e ≤ e0 + 8 ∧ s * 10 ^ (e - e0).toNat = s0
theorem strip_start {s e : Int} (h : 1 ≤ s) : Strip s e s e := ⟨h, by omega, by omega, by rw [show (e - e).toNat = 0 by omega]; simp⟩
theorem strip_step {s0 e0 s e : Int} (hs : s0 ≤ 10 ^ 7) (h : Strip s0 e0 s e) (hm : s.fmod 10 = 0) : Strip s0 e0 (s.fdiv 10) (e + 1) := by
  obtain ⟨h1, h2, h3, h4⟩ := h
  have h5 : s.fdiv 10 * 10 = s := by have := Int.mul_fdiv_add_fmod s 10; omega
  have h6 : s.fdiv 10 * 10 ^ (e + 1 - e0).toNat = s0 := by
    rw [show (e + 1 - e0).toNat = (e - e0).toNat + 1 by omega, Int.pow_succ, Int.mul_comm (10 ^ _) 10, ← Int.mul_assoc, h5]
    exact h4
  refine ⟨by omega, by omega, ?_, h6⟩
  rcases Int.lt_or_le (e0 + 8) (e + 1) with h7 | h7
  · have h8 := pow_mono (show 9 ≤ (e + 1 - e0).toNat by omega)
    have h9 : 1 * 10 ^ (e + 1 - e0).toNat ≤ s.fdiv 10 * 10 ^ (e + 1 - e0).toNat := Int.mul_le_mul_of_nonneg_right (by omega) (by omega)
    omega
  · exact h7
theorem made_w0 {s e : Int} (h : 1 ≤ s) : Strip s e s e ∧ 1 ≤ s ∧ e ≤ e ∧ e ≤ e + 8 ∧ s ≤ s := ⟨strip_start h, h, by omega, by omega, by omega⟩
theorem made_w1 {s0 e0 s e : Int} (h : Strip s0 e0 s e) (hs : s0 ≤ 10 ^ 7) (hm : s.fmod 10 = 0) (hl : s ≤ s0) : Strip s0 e0 (s.fdiv 10) (e + 1) ∧ 1 ≤ s.fdiv 10 ∧ e0 ≤ e + 1 ∧ e + 1 ≤ e0 + 8 ∧ s.fdiv 10 ≤ s0 := by
  have h1 := strip_step hs h hm
  have h2 := Int.mul_fdiv_add_fmod s 10
  have h3 := h1.1
  exact ⟨h1, h1.1, h1.2.1, h1.2.2.1, by omega⟩
theorem made_less {s : Int} (h : 1 ≤ s) (hm : s.fmod 10 = 0) : (s.fdiv 10).toNat < s.toNat := by
  have h2 := Int.mul_fdiv_add_fmod s 10
  omega
theorem strip_ok {s0 e0 s e : Int} (h : Strip s0 e0 s e) (h2 : -3 ≤ e0) (h3 : s0 * 10 ^ (e0 + 3).toNat ≤ 10 ^ 9) : DecOk s e := by
  obtain ⟨h1, h4, h5, h6⟩ := h
  refine DecOk.of (by omega) h1 (by omega) ?_
  rw [show (e + 3).toNat = (e - e0).toNat + (e0 + 3).toNat by omega, Int.pow_add, ← Int.mul_assoc, h6]
  exact h3
theorem made_A {x e : Int} (hx : x ≤ 10 ^ 6) (he : -3 ≤ e) (he' : e ≤ 0) : x * 10 ^ (e + 3).toNat ≤ 10 ^ 9 := by
  have h1 := pow_mono (show (e + 3).toNat ≤ 3 by omega)
  have h2 := pow_pos' (e + 3).toNat
  have h3 : x * 10 ^ (e + 3).toNat ≤ 10 ^ 6 * 10 ^ (e + 3).toNat := Int.mul_le_mul_of_nonneg_right hx (by omega)
  omega
theorem made_B {n x e p : Int} (h : n * 10 ^ p.toNat < x + 10 ^ p.toNat) (hx : x ≤ 10 ^ 6) (he : -3 ≤ e) (he' : e ≤ 0) (hp : 1 ≤ p) (hp' : p ≤ 6) : n * 10 ^ (e + p + 3).toNat ≤ 10 ^ 9 := by
  have h1 := rd_fit (a := 6 - p.toNat) (b := p.toNat) (by rw [show 6 - p.toNat + p.toNat = 6 by omega]; exact hx) h
  rw [show 6 - p.toNat + p.toNat = 6 by omega] at h1
  rw [show (e + p + 3).toNat = p.toNat + (e + 3).toNat by omega, Int.pow_add, ← Int.mul_assoc]
  exact made_A h1 he he'
end

section
open PySem PySem.W PyProof.Rows
set_option maxRecDepth 100000 in
set_option maxHeartbeats 8000000 in
theorem figures_c (x : Int) (t : Tok) (news : List (Addr × Obj)) (h0 : 0 ≤ x) (h1 : x < 10^12) : Con 1 51 [.int x t] news (fun r news' => (∃ n t', r = .int n t' ∧ Figs x n ∧ 1 ≤ n ∧ n ≤ 12) ∧ news = news') := by
  unfold Con
  k_fill
  k_with_none
  intro w mean mg mb dp un gd cn cs a ccd cl outer A₀ base h₀ L m s Q E B F X N T hk hd hu hret
  refine wpAny_call ?_
  k_dflt ktr_enter
  k_steps
  exact hret _ news _ _ (by assumption) (news_sub (by assumption) (fun p hp => .tail _ hp)) (by have G := figs_of (by assumption) (by assumption) (by assumption); exact ⟨⟨_, _, rfl, G, G.one, G.le (k := 12) (by decide) h1⟩, rfl⟩)
end

section
open PySem PySem.W PyProof.Rows
set_option maxRecDepth 100000 in
set_option maxHeartbeats 8000000 in
theorem rounded_c (x p : Int) (t t' : Tok) (news : List (Addr × Obj)) (h0 : 0 ≤ x) (h1 : x < 10^12) (h2 : 1 ≤ p) (h3 : p ≤ 12) : Con 2 58 [.int x t, .int p t'] news (fun r news' => (∃ n t', r = .int n t' ∧ 0 ≤ n ∧ n * 10 ^ p.toNat < x + 10 ^ p.toNat ∧ n ≤ x) ∧ news = news') := by
  unfold Con
  k_fill
  k_with_none
  k_with "call ref" => (k_here; (with_reducible show wpAny _ _ (call (Value.ref 51) _) _ _ _); k_dflt (refine' Con.use ?k1 ?k2 ?k3 ?k4 ?k5 ?kK (figures_c _ _ _ ?h0 ?h1) ?kd ?ku ?_); (case k1 => k_asm); (case k2 => k_asm); (case k3 => k_asm); (case k4 => k_asm); (case k5 => k_asm); (case kK => first | exact rfl | assumption); (case h0 => omega); (case h1 => omega); (case kd => ktr_room); (case ku => ktr_units); intro r9 n9 h9 tk9 F9 N9 R9; obtain ⟨⟨k9, t9, e9, G9, G8, G7⟩, e8⟩ := R9; subst e9; subst e8; (try dsimp only); (try k_fold))
  k_with "binaryOp FloorDiv int int" => (k_here; (with_reducible refine floordiv_int (Int.ne_of_gt (pow_pos' _)) ?_ (Or.inl (pylong10 ?kbp))); (case kbp => omega))
  intro w mean mg mb dp un gd cn cs a ccd cl outer A₀ base h₀ L m s Q E B F X N T hk hd hu hret
  refine wpAny_call ?_
  k_dflt ktr_enter
  k_steps
  all_goals (first
    | exact hret _ news _ _ (by assumption) (news_sub (by assumption) (fun p hp => by first | exact hp | exact .tail _ hp)) ⟨⟨_, _, rfl, rd_C3 h0 (pow_pos' _) (by have := pow_pos' p.toNat; omega)⟩, rfl⟩
    | exact hret _ news _ _ (by assumption) (news_sub (by assumption) (fun p hp => by first | exact hp | exact .tail _ hp)) ⟨⟨_, _, rfl, rd_B3 h0 (pow_pos' _)⟩, rfl⟩
    | exact hret _ news _ _ (by assumption) (news_sub (by assumption) (fun p hp => by first | exact hp | exact .tail _ hp)) ⟨⟨_, _, rfl, rd_A3 h0 (pow_pos' _)⟩, rfl⟩)
end

section
open PySem PySem.W PyProof.Rows
set_option maxRecDepth 100000 in
set_option maxHeartbeats 8000000 in
theorem made_c (c e g : Int) (tc te tg : Tok) (news : List (Addr × Obj)) (hc : -10^6 ≤ c) (hc' : c ≤ 10^6) (he : -3 ≤ e) (he' : e ≤ 0) (hg : 2 ≤ g) (hg' : g ≤ 7) :
    Con 4 65 [.int c tc, .int e te, .int g tg] news (fun r news' => ∃ b c' e' t1 t2 k, r = .ref b ∧ DecOk c' e' ∧ (∀ p ∈ news, p.1 < b) ∧ (b, ({ cls := .type "tuple", data := .seq #[.int c' t1, .int e' t2] k } : Obj)) :: news = news') := by
  unfold Con
  k_fill
  k_with_none
  k_with "call ref" => (k_here; (with_reducible show wpAny _ _ (call (Value.ref 51) _) _ _ _); k_dflt (refine' Con.use ?k1 ?k2 ?k3 ?k4 ?k5 ?kK (figures_c _ _ _ ?h0 ?h1) ?kd ?ku ?_); (case k1 => k_asm); (case k2 => k_asm); (case k3 => k_asm); (case k4 => k_asm); (case k5 => k_asm); (case kK => first | exact rfl | assumption); (case h0 => omega); (case h1 => omega); (case kd => ktr_room); (case ku => ktr_units); intro r9 n9 h9 tk9 F9 N9 R9; obtain ⟨⟨k9, t9, e9, G9, G8, G7⟩, e8⟩ := R9; subst e9; subst e8; (have Gs := Figs.le7 (by assumption) (by omega)); (try dsimp only); (try k_fold))
  k_with "call ref" => (k_here; (with_reducible show wpAny _ _ (call (Value.ref 58) _) _ _ _); k_dflt (refine' Con.use ?k1 ?k2 ?k3 ?k4 ?k5 ?kK (rounded_c _ _ _ _ _ ?h0 ?h1 ?h2 ?h3) ?kd ?ku ?_); (case k1 => k_asm); (case k2 => k_asm); (case k3 => k_asm); (case k4 => k_asm); (case k5 => k_asm); (case kK => first | exact rfl | assumption); (case h0 => omega); (case h1 => omega); (case h2 => omega); (case h3 => omega); (case kd => ktr_room); (case ku => ktr_units); intro r9 n9 h9 tk9 F9 N9 R9; obtain ⟨⟨k9, t9, e9, G9, G8, G7⟩, e8⟩ := R9; subst e9; subst e8; (try dsimp only); (try k_fold))
  intro w mean mg mb dp un gd cn cs a ccd cl outer A₀ base h₀ L m s Q E B F X N T hk hd hu hret
  refine wpAny_call ?_
  k_dflt ktr_enter
  k_with "exec While Compare cons nil" => k_while_given ["size!", "exponent!"] (fun s0 e0 _ s e => Strip s0 e0 s e ∧ 1 ≤ s ∧ e0 ≤ e ∧ e ≤ e0 + 8 ∧ s ≤ s0) (fun _ _ _ s _ => s.toNat) "size" "exponent"
  k_with "state" => first | exact made_w0 (by omega) | exact made_w1 (by assumption) (by omega) (by assumption) (by assumption)
  k_with "measure" => exact made_less (by assumption) (by assumption)
  k_steps
  all_goals (
    first
    | refine hret _ _ _ _ (by assumption) (news_sub (by assumption) sub_same) ⟨_, _, _, _, _, _, rfl, ?d, ?l, rfl⟩
    | refine hret _ _ _ _ (by assumption) (news_sub (by assumption) sub_mid) ⟨_, _, _, _, _, _, rfl, ?d, ?l, rfl⟩
    (case l => first | assumption | exact all_lt_at (And.right (by assumption)))
    (case d => first
      | exact DecOk.zero
      | exact strip_ok (by assumption) (by omega) (made_B (by assumption) (by omega) he he' (by omega) (by omega))
      | exact strip_ok (by assumption) (by omega) (made_A (by omega) he he')
      | exact (strip_ok (by assumption) (by omega) (made_B (by assumption) (by omega) he he' (by omega) (by omega))).neg
      | exact (strip_ok (by assumption) (by omega) (made_A (by omega) he he')).neg))
end

section
open PySem PySem.W PyProof.Rows
/-- a number of the law: a whole one or a decimal -/
inductive Num where
  | whole (n : Int)
  | dec (c e : Int)
def Num.units : Num → Int
  | .whole n => 1000 * n
  | .dec c e => c * 10 ^ (e + 3).toNat
def Num.Ok : Num → Prop
  | .whole n => -30000 ≤ n ∧ n ≤ 30000
  | .dec c e => DecOk c e
inductive NumIn (news : List (Addr × Obj)) : Value → Num → Prop where
  | whole (n : Int) (t : Tok) : NumIn news (.int n t) (.whole n)
  | dec (b : Addr) (c e : Int) (t1 t2 : Tok) (k : Nat) (h : (b, ({ cls := .type "tuple", data := .seq #[.int c t1, .int e t2] k } : Obj)) ∈ news) : NumIn news (.ref b) (.dec c e)
theorem NumIn.mono {news news' : List (Addr × Obj)} {v : Value} {d : Num} (h : NumIn news v d) (hs : ∀ p ∈ news, p ∈ news') : NumIn news' v d := by
  cases h with
  | whole n t => exact .whole n t
  | dec b c e t1 t2 k h => exact .dec b c e t1 t2 k (hs _ h)
def sgn (x y : Int) : Int := if x < y then -1 else if y < x then 1 else 0
theorem DecOk.wh {n : Int} (h : -30000 ≤ n) (h' : n ≤ 30000) : DecOk n 0 := ⟨by omega, by omega, by show n * 10 ^ 3 ≤ 10 ^ 9; omega, by show -10 ^ 9 ≤ n * 10 ^ 3; omega⟩
theorem whole_units (n : Int) : n * 10 ^ ((0 : Int) + 3).toNat = 1000 * n := by
  show n * 10 ^ 3 = 1000 * n
  omega
theorem b2i_sgn (x y : Int) : b2i (decide (y < x)) - b2i (decide (x < y)) = sgn x y := by
  unfold sgn
  by_cases h1 : x < y
  · rw [if_pos h1, decide_eq_true h1, decide_eq_false (by omega)]; rfl
  · rw [if_neg h1, decide_eq_false h1]
    by_cases h2 : y < x
    · rw [if_pos h2, decide_eq_true h2]; rfl
    · rw [if_neg h2, decide_eq_false h2]; rfl
theorem lt_scale {x y k : Int} (hk : 0 < k) : x * k < y * k ↔ x < y := ⟨fun h => Int.lt_of_mul_lt_mul_right h (Int.le_of_lt hk), fun h => Int.mul_lt_mul_of_pos_right h hk⟩
theorem sgn_scale {x y k : Int} (hk : 0 < k) : sgn (x * k) (y * k) = sgn x y := by
  unfold sgn
  simp only [lt_scale hk]
theorem pow_split {c e l : Int} (h : l ≤ e) (h3 : -3 ≤ l) : c * 10 ^ (e + 3).toNat = c * 10 ^ (e - l).toNat * 10 ^ (l + 3).toNat := by
  rw [show (e + 3).toNat = (e - l).toNat + (l + 3).toNat by omega, Int.pow_add, Int.mul_assoc]
theorem cmp_sgn {c1 e1 c2 e2 l : Int} (h1 : l ≤ e1) (h2 : l ≤ e2) (h3 : -3 ≤ l) :
    b2i (decide (c2 * 10 ^ (e2 - l).toNat < c1 * 10 ^ (e1 - l).toNat)) - b2i (decide (c1 * 10 ^ (e1 - l).toNat < c2 * 10 ^ (e2 - l).toNat)) = sgn (c1 * 10 ^ (e1 + 3).toNat) (c2 * 10 ^ (e2 + 3).toNat) := by
  rw [b2i_sgn, pow_split h1 h3, pow_split h2 h3, sgn_scale (pow_pos' _)]
theorem wh_sgn (x y : Int) : b2i (decide (y < x)) - b2i (decide (x < y)) = sgn (1000 * x) (1000 * y) := by
  rw [b2i_sgn, Int.mul_comm 1000 x, Int.mul_comm 1000 y, sgn_scale (by decide)]
theorem sub_cons {x : Addr × Obj} {r big : List (Addr × Obj)} (hx : x ∈ big) (hr : ∀ p ∈ r, p ∈ big) : ∀ p ∈ x :: r, p ∈ big := fun p hp => by
  rcases List.mem_cons.mp hp with rfl | hp
  · exact hx
  · exact hr p hp
theorem num_okw {n : Int} (h : -30000 ≤ n) (h' : n ≤ 30000) : (Num.whole n).Ok := ⟨h, h'⟩
theorem num_ok {c e : Int} (h : DecOk c e) : (Num.dec c e).Ok := h
theorem off_one {d : Addr} {rest : List (Addr × Obj)} (h : ∀ p ∈ rest, p.1 ≠ d) : OwnOff rest [d] := fun p hp b hb e => h p hp (by rw [e]; exact List.mem_singleton.mp hb)
theorem news_front {h₀ h : Heap} {L : Addr} {news : List (Addr × Obj)} {x : Addr × Obj} (N : News h₀ L h news) (hm : x ∈ news) : News h₀ L h (x :: news) := fun p hp => by
  rcases List.mem_cons.mp hp with e | hp
  · rw [e]; exact N _ hm
  · exact N _ hp
end

section
open PySem PySem.W PySem.Calls PyProof.Rows
section
variable {prog : Program} {w : World} {A : Around} {E : Value → Shared → Prop} {s : Shared} {h₀ : Heap} {L : Addr} {m : Str → Option Value} {env : Env}
/-- the tuple that a comprehension goes over stands in the ledger -/
def TupAt (ax : Addr) (its : Array Value) (news : List (Addr × Obj)) : Prop := ∃ o, (ax, o) ∈ news ∧ o.cls = .type "tuple" ∧ ∃ n, o.data = .seq its n
theorem TupAt.tup {h : Heap} {ax : Addr} {its : Array Value} {news : List (Addr × Obj)} (x : TupAt ax its news) (N : News h₀ L h news) : h.IsTuple ax its := by
  obtain ⟨o, hm, r⟩ := x
  exact ⟨o, (N _ hm).1, r⟩
/-- behind a comprehension's iterable: it is a tuple of the ledger, and its turns are shown -/
def TupSrc (prog : Program) (w : World) (A : Around) (h₀ : Heap) (L : Addr) (m : Str → Option Value) (env : Env) (elt : Expr) (x : Str) (scope : Scope) (cl : List (Str × Addr)) (Fin : Shared → List Value → List (Addr × Obj) → Prop) (xv : Value) (s₁ : Shared) : Prop :=
  ∃ ax its news, xv = .ref ax ∧ A.handled = none ∧ Fr h₀ L s₁.heap m ∧ News h₀ L s₁.heap news ∧ TupAt ax its news ∧ its.size ≤ sizeLine ∧
    ∀ s₂ : Shared, (∃ h, s₂ = { s₁ with heap := h }) → LCg.CompRest prog w A h₀ L m env elt x scope cl s₂ (TupAt ax its) (fun i v => its[i]? = some v) (Fin s₂) its.size 0 [] news
theorem TupSrc.ledger {elt : Expr} {x : Str} {scope : Scope} {cl : List (Str × Addr)} {Fin : Shared → List Value → List (Addr × Obj) → Prop} {ax : Addr} {its : Array Value} {k : Nat} {news : List (Addr × Obj)} {s₁ : Shared}
    (hh : A.handled = none) (F : Fr h₀ L s₁.heap m) (N : News h₀ L s₁.heap news) (hm : (ax, ({ cls := .type "tuple", data := .seq its k } : Obj)) ∈ news) (hsz : its.size ≤ sizeLine)
    (h : ∀ g, LCg.CompRest prog w A h₀ L m env elt x scope cl { s₁ with heap := g } (TupAt ax its) (fun i v => its[i]? = some v) (Fin { s₁ with heap := g }) its.size 0 [] news) :
    TupSrc prog w A h₀ L m env elt x scope cl Fin (.ref ax) s₁ := ⟨ax, its, news, rfl, hh, F, N, ⟨_, hm, rfl, _, rfl⟩, hsz, fun _ ⟨g, e⟩ => e ▸ h g⟩
theorem tup_st {ax I : Addr} {its : Array Value} : ∀ i (h h' : Heap) (o : Obj) (nw : List (Addr × Obj)), (h.IsTupleIter I ax i ∧ h.IsTuple ax its) → h.get? I = some o → h'.get? I = some o → (∀ b o, h₀.get? b = some o → h'.get? b = some o) → News h₀ L h' nw → TupAt ax its nw → (h'.IsTupleIter I ax i ∧ h'.IsTuple ax its) :=
  fun i h h' o nw st e e' _ N S => ⟨by obtain ⟨o', q, r⟩ := st.1; rw [e] at q; cases q; exact ⟨o, e', r⟩, S.tup N⟩

theorem comp_tup {elt iter : Expr} {x : Str} {px : Pos} {scope : Scope} {cl : List (Str × Addr)} {pos : Pos} {Q : Value → Shared → Prop} (_F₀ : Fr h₀ L s.heap m)
    (hclos : closureFor scope env = pure cl) (hcell : ∀ y ∈ scope.names, y.2 ≠ .cell) (hkind : scope.kind = .function)
    (hnames : ∀ y ∈ scope.names, y.2 = .local → scope.names.lookup y.1 = some .local) (hx : scope.names.lookup x = some .local)
    (h : wpAny (model prog w) A (eval iter env) (TupSrc prog w A h₀ L m env elt x scope cl (fun s₂ => LCg.FinE h₀ L m s₂ Q)) E s)
    (hs : ∀ x, foldedSetIterable iter env x = pure x := by intro _; rfl) :
    wpAny (model prog w) A (eval (.ListComp elt [⟨.Name x px, iter, [], 0⟩] scope pos) env) Q E s := by
  rw [eval_ListComp]
  refine wpAny_comprehension_free (use := none) rfl hs hclos hkind hnames (wpAny_mono h (fun xv s₁ h₁ => ?_) fun _ _ e => e)
  obtain ⟨ax, its, news, rfl, hh, F, N, S, hsz, R⟩ := h₁
  have hl := S.tup N
  have hlt : ax < s₁.heap.objs.size := by obtain ⟨_, e, _⟩ := hl; exact Heap.lt_size e
  refine wpAny_pyIter_tuple hl ?_
  have up : ∀ b o, s₁.heap.get? b = some o → (s₁.heap.push { cls := .type "tuple_iterator", data := .fields #[.ref ax, .int 0 0] }).get? b = some o := fun b o e => Heap.get?_push_of_some _ e
  refine LCg.block_U (Walks.tuple hh s₁.heap.objs.size ax (Nat.ne_of_lt hlt) its) hsz (fun i h st => by obtain ⟨o, e, _⟩ := st.1; exact ⟨o, e⟩) tup_st hcell hkind hx ⟨⟨_, Heap.get?_push_size _ rfl, rfl, rfl⟩, hl.at fun o e => up _ o e⟩ (fun b hb => ?_)
    (F.keeps up) (N.grown up) (Nat.ne_of_lt F.ns.lt) (next_is_new F) (fun p hp => Nat.ne_of_lt (Heap.lt_size (N p hp).1)) S (R _ ⟨_, rfl⟩) ?_
  · show b < (s₁.heap.push _).objs.size
    rw [Heap.size_push]
    rcases List.mem_cons.mp hb with rfl | hb
    · exact Nat.lt_succ_self _
    · rw [List.mem_singleton.mp hb]; exact Nat.lt_succ_of_lt hlt
  · intro D C h tk m' ys news' F' N' o1 hn hC₀ hD₀ hCL hDL hCD offC fin
    refine ⟨m', hn, fun h'' hs'' => fin D h'' tk (F'.change hs'' hCL hC₀) (fun p hp => ?_) o1⟩
    refine ⟨hs''.extBut _ _ ?_ (N' p hp).1, (N' p hp).2⟩
    rcases List.mem_cons.mp hp with rfl | hp
    · exact Ne.symm hCD
    · exact offC p hp

theorem comp_tup_assign {elt iter : Expr} {x y : Str} {px py : Pos} {scope : Scope} {cl : List (Str × Addr)} {pos spos : Pos} {Q : Flow → Shared → Prop} (_F₀ : Fr h₀ L s.heap m) (hLe : env.locals = L)
    (hsw : swapsWith (.ListComp elt [⟨.Name x px, iter, [], 0⟩] scope pos) (some (.Name y py)) spos.line env = pure true)
    (hclos : closureFor scope env = pure cl) (hcell : ∀ z ∈ scope.names, z.2 ≠ .cell) (hkind : scope.kind = .function)
    (hnames : ∀ z ∈ scope.names, z.2 = .local → scope.names.lookup z.1 = some .local) (hx : scope.names.lookup x = some .local)
    (hy : env.kindOf y = some .local) (hp : (env.scope.kind == .class || (env.scope.kind == .module && env.locals != env.globals)) = false)
    (h : wpAny (model prog w) A (eval iter env) (TupSrc prog w A h₀ L m env elt x scope cl (fun s₂ => LCg.FinA h₀ L m s₂ y Q)) E s)
    (hs : ∀ x, foldedSetIterable iter env x = pure x := by intro _; rfl) :
    wpAny (model prog w) A (exec (.Assign [.Name y py] (.ListComp elt [⟨.Name x px, iter, [], 0⟩] scope pos) spos) env) Q E s := by
  subst hLe
  rw [exec_Assign_Name_used _ _ _ _ hsw]
  refine wpAny_bind (wpAny_standAt (wpAny_bind ?_))
  show wpAny _ A (do let _ ← comprehension (.ListComp elt [⟨.Name x px, iter, [], 0⟩] scope pos) scope env _ (newList []) false (eval iter env) (some (assign (.Name y py) env))) _ _ s
  refine wpAny_bind (wpAny_mono (wpAny_comprehension_free (use := some (assign (.Name y py) env)) (Q := fun _ s' => Q .next s') rfl hs hclos hkind hnames
    (wpAny_mono h (fun xv s₁ h₁ => ?_) fun _ _ e => e)) (fun _ s' hq => wpAny_pure (wpAny_pure hq)) fun _ _ e => e)
  obtain ⟨ax, its, news, rfl, hh, F, N, S, hsz, R⟩ := h₁
  have hl := S.tup N
  have hlt : ax < s₁.heap.objs.size := by obtain ⟨_, e, _⟩ := hl; exact Heap.lt_size e
  refine wpAny_pyIter_tuple hl ?_
  have up : ∀ b o, s₁.heap.get? b = some o → (s₁.heap.push { cls := .type "tuple_iterator", data := .fields #[.ref ax, .int 0 0] }).get? b = some o := fun b o e => Heap.get?_push_of_some _ e
  refine LCg.block_U (Walks.tuple hh s₁.heap.objs.size ax (Nat.ne_of_lt hlt) its) hsz (fun i h st => by obtain ⟨o, e, _⟩ := st.1; exact ⟨o, e⟩) tup_st hcell hkind hx ⟨⟨_, Heap.get?_push_size _ rfl, rfl, rfl⟩, hl.at fun o e => up _ o e⟩ (fun b hb => ?_)
    (F.keeps up) (N.grown up) (Nat.ne_of_lt F.ns.lt) (next_is_new F) (fun p hp => Nat.ne_of_lt (Heap.lt_size (N p hp).1)) S (R _ ⟨_, rfl⟩) ?_
  · show b < (s₁.heap.push _).objs.size
    rw [Heap.size_push]
    rcases List.mem_cons.mp hb with rfl | hb
    · exact Nat.lt_succ_self _
    · rw [List.mem_singleton.mp hb]; exact Nat.lt_succ_of_lt hlt
  · intro D C h' tk m' ys news' F' N' o1 hn hC₀ hD₀ hCL hDL hCD offC fin
    show wpAny _ A (assign (.Name y py) env (.ref D)) _ _ _
    refine wpAny_assign_Name (wpAny_storeName_local hy F'.ns (fun h₂ hn₂ hs₂ => ?_) hp)
    have hL₀ : h₀.get? env.locals = none := Heap.get?_none_of_le F'.above
    have F₂ : Fr h₀ env.locals h₂ (fun z => if z = y then some (.ref D) else m z) := ⟨hn₂, fun b o e => hs₂.extBut b o (fun q => by rw [q, hL₀] at e; cases e) (F'.keep b o e), F'.above⟩
    refine ⟨m', hn.sameBut hs₂ hCL, fun h'' hs'' => fin D h'' _ (F₂.change hs'' hCL hC₀) (fun p hp => ?_) o1⟩
    have z : h₂.get? p.1 = some p.2 := hs₂.extBut _ _ (N' p hp).2.1 (N' p hp).1
    refine ⟨hs''.extBut _ _ ?_ z, (N' p hp).2⟩
    rcases List.mem_cons.mp hp with rfl | hp
    · exact Ne.symm hCD
    · exact offC p hp
/-- a list of the ledger, gone through turn by turn where a turn leaves the ledger as it was -/
theorem end_same {I C D : Addr} {s₁ : Shared} {oI oC oD : Obj} {S : List (Addr × Obj) → Prop} {rest : Value → List (Addr × Obj) → Prop} {y : Value} {h' : Heap} {tk : Nat} {news : List (Addr × Obj)}
    (F : Fr h₀ L h' m) (N : News h₀ L h' ((I, oI) :: (C, oC) :: (D, oD) :: news)) (off : LCg.Off3 I C D news) (hS : S news) (r : rest y news) :
    LCg.CompEnd h₀ L m s₁ I oI C oC D oD S rest y { s₁ with heap := h', toks := tk } := ⟨h', tk, news, rfl, F, N, off, hS, r⟩
theorem eq_str_no {x y : Str} {t u : Tok} {Q : Value → Shared → Prop} (hn : (x == y) = false) (h : Q (.bool false) s) : wpAny (model prog w) A (compareOp .Eq (.str x t) (.str y u)) Q E s :=
  PyProof.Rows.eq_str (by rw [hn]; exact h)
theorem in_top_tup {K : Frag} {a : Addr} {items : Array Value} {n : Nat} {d : Option Addr} {sl : Array (Option Value)} {ys : List Str} {x : Str} {u : Tok} {b : Bool} {Q : Value → Shared → Prop} (X : K.In h₀) (F : Fr h₀ L s.heap m)
    (e : K.lookup a = some ⟨.type "tuple", d, .seq items n, sl⟩) (hs : StrsAre items.toList ys) (hb : ys.any (· == x) = b) (h : Q (.bool b) s) :
    wpAny (model prog w) A (compareOp .In (.str x u) (.ref a)) Q E s :=
  in_tuple_strs ⟨_, F.keep _ _ (X _ _ e), rfl, _, rfl⟩ hs (by rw [hb]; exact h)
end
end

section
open PySem PySem.W PyProof.Rows
set_option maxRecDepth 100000 in
set_option maxHeartbeats 8000000 in
theorem compare_c (b1 b2 : Addr) (c1 e1 c2 e2 : Int) (t1 t2 t3 t4 : Tok) (k1 k2 : Nat) (news : List (Addr × Obj)) (hm1 : (b1, ({ cls := .type "tuple", data := .seq #[.int c1 t1, .int e1 t2] k1 } : Obj)) ∈ news) (hm2 : (b2, ({ cls := .type "tuple", data := .seq #[.int c2 t3, .int e2 t4] k2 } : Obj)) ∈ news)
   (hA : -10^9 ≤ c1) (hB : c1 ≤ 10^9) (hC : -10^9 ≤ c2) (hD : c2 ≤ 10^9) (hE : -3 ≤ e1) (hF : e1 ≤ 9) (hG : -3 ≤ e2) (hH : e2 ≤ 9) :
  Con 2 164 [.ref b1, .ref b2] news (fun r news' => (∃ t', r = .int (sgn (c1 * 10 ^ (e1 + 3).toNat) (c2 * 10 ^ (e2 + 3).toNat)) t') ∧ news = news') := by
  unfold Con
  k_fill
  k_with_none
  k_with "call ref" => (k_here; (with_reducible show wpAny _ _ (call (Value.ref 122) _) _ _ _); (refine wpAny_call ?_); k_dflt (refine' code_def ?k1 ?k2 ?k3 ?k4 ?k5 ?kA ?kF ?kK ?k6 ?k7 ?k8 ?k9 ?kB ?_ ?c2 ?c3 ?c4 ?c5; (case kA => exact rfl); (case kF => exact rfl); (case kK => first | exact rfl | assumption); (case k1 => k_asm); (case k2 => k_asm); (case k3 => k_asm); (case k4 => k_asm); (case k5 => k_asm); (case k6 => k_is); (case k7 => k_is); (case k8 => ktr_room); (case k9 => exact BindsTo.of_eq rfl); (case c5 => decide); (case kB => exact locs rfl); (case c2 => exact rfl); (case c3 => exact rfl); (case c4 => exact rfl); k_whole; intro g' L' h' FG' F' N' B' X' T'; (try dsimp only); (try k_fold)))
  k_with "binaryOp Mult int int" => (k_here; (with_reducible refine PyProof.Rows.mul_int ?_ (PySem.IntMulOk.of_left (PySem.intBits_le_64 (by omega) (by omega)))))
  k_with "binaryOp Pow int int" => (k_here; (with_reducible refine PyProof.Rows.pow_int_small ?kb1 ?kb2 ?kb3 ?_); (case kb1 => omega); (case kb2 => omega); (case kb3 => decide))
  intro w mean mg mb dp un gd cn cs a ccd cl outer A₀ base h₀ L m s Q E B F X N T hk hd hu hret
  refine wpAny_call ?_
  k_dflt ktr_enter
  k_steps
  rw [cmp_sgn (by split <;> omega) (by split <;> omega) (by split <;> omega)]
  exact hret _ news _ _ (by assumption) (news_sub (by assumption) fun p hp => .tail _ hp) ⟨⟨_, rfl⟩, rfl⟩
end

section
open PySem PySem.W PyProof.Rows
local macro_rules | `(tactic| k_mem) => `(tactic| first | assumption | exact List.Mem.tail _ (by assumption) | exact List.Mem.tail _ (List.Mem.tail _ (by assumption)) | exact List.Mem.tail _ (List.Mem.tail _ (List.Mem.tail _ (by assumption))))
set_option maxRecDepth 100000 in
set_option maxHeartbeats 8000000 in
theorem order_c (v1 v2 : Value) (d1 d2 : Num) (news : List (Addr × Obj)) (hR1 : NumIn news v1 d1) (hR2 : NumIn news v2 d2) (hO1 : d1.Ok) (hO2 : d2.Ok) :
  Con 3 255 [v1, v2] news (fun r news' => (∃ t', r = .int (sgn d1.units d2.units) t') ∧ news = news') := by
  unfold Con
  k_fill
  k_with_none
  k_with "call ref" => (k_here; (with_reducible show wpAny _ _ (call (Value.ref 185) _) _ _ _); (refine wpAny_call ?_); k_dflt (refine' code_def ?k1 ?k2 ?k3 ?k4 ?k5 ?kA ?kF ?kK ?k6 ?k7 ?k8 ?k9 ?kB ?_ ?c2 ?c3 ?c4 ?c5; (case kA => exact rfl); (case kF => exact rfl); (case kK => first | exact rfl | assumption); (case k1 => k_asm); (case k2 => k_asm); (case k3 => k_asm); (case k4 => k_asm); (case k5 => k_asm); (case k6 => k_is); (case k7 => k_is); (case k8 => ktr_room); (case k9 => exact BindsTo.of_eq rfl); (case c5 => decide); (case kB => exact locs rfl); (case c2 => exact rfl); (case c3 => exact rfl); (case c4 => exact rfl); k_whole; intro g' L' h' FG' F' N' B' X' T'; (try dsimp only); (try k_fold)))
  k_with "call ref" => (k_here; (with_reducible show wpAny _ _ (call (Value.ref 164) _) _ _ _); k_dflt (refine' Con.use ?k1 ?k2 ?k3 ?k4 ?k5 ?kK (compare_c _ _ _ _ _ _ _ _ _ _ _ _ _ ?p0 ?p1 ?p2 ?p3 ?p4 ?p5 ?p6 ?p7 ?p8 ?p9) ?kd ?ku ?_; (case k1 => k_asm); (case k2 => k_asm); (case k3 => k_asm); (case k4 => k_asm); (case k5 => k_asm); (case kK => first | exact rfl | assumption); (case p0 => first | assumption | exact List.Mem.head _ | exact List.Mem.tail _ (by assumption) | exact List.Mem.tail _ (List.Mem.head _) | exact List.Mem.tail _ (List.Mem.tail _ (by assumption)) ); (case p1 =>  first | assumption | exact List.Mem.head _ | exact List.Mem.tail _ (by assumption) | exact List.Mem.tail _ (List.Mem.head _) | exact List.Mem.tail _ (List.Mem.tail _ (by assumption)) ); (case p2 =>  omega ); (case p3 =>  omega ); (case p4 =>  omega ); (case p5 =>  omega ); (case p6 =>  omega ); (case p7 =>  omega ); (case p8 =>  omega ); (case p9 =>  omega); (case kd => ktr_room); (case ku => ktr_units); intro r9 n9 h9 tk9 F9 N9 R9; obtain ⟨⟨t9, e9⟩, e8⟩ := R9; subst e9; subst e8;(try dsimp only); (try k_fold)))
  intro w mean mg mb dp un gd cn cs a ccd cl outer A₀ base h₀ L m s Q E B F X N T hk hd hu hret
  cases hR1 with
  | whole n1 t1 =>
    obtain ⟨hA1, hA2⟩ := hO1
    cases hR2 with
    | whole n2 t2 =>
      obtain ⟨hB1, hB2⟩ := hO2
      refine wpAny_call ?_
      k_dflt ktr_enter
      k_steps
      all_goals first | (rw [wh_sgn]; exact hret _ news _ _ (by assumption) (by assumption) ⟨⟨_, rfl⟩, rfl⟩) | ((try rw [whole_units]); exact hret _ news _ _ (by assumption) (news_sub (by assumption) fun p hp => by first | exact hp | exact .tail _ hp) ⟨⟨_, rfl⟩, rfl⟩)
    | dec b2 c2 e2 t3 t4 k2 hm2 =>
      have hB := DecOk.big hO2
      obtain ⟨hB1, hB2⟩ := hB
      have hB3 := DecOk.lo hO2
      have hB4 := DecOk.hi hO2
      refine wpAny_call ?_
      k_dflt ktr_enter
      k_steps
      all_goals first | (rw [wh_sgn]; exact hret _ news _ _ (by assumption) (by assumption) ⟨⟨_, rfl⟩, rfl⟩) | ((try rw [whole_units]); exact hret _ news _ _ (by assumption) (news_sub (by assumption) fun p hp => by first | exact hp | exact .tail _ hp) ⟨⟨_, rfl⟩, rfl⟩)
  | dec b1 c1 e1 t1 t2 k1 hm1 =>
    have hA := DecOk.big hO1
    obtain ⟨hA1, hA2⟩ := hA
    have hA3 := DecOk.lo hO1
    have hA4 := DecOk.hi hO1
    cases hR2 with
    | whole n2 t2 =>
      obtain ⟨hB1, hB2⟩ := hO2
      refine wpAny_call ?_
      k_dflt ktr_enter
      k_steps
      all_goals first | (rw [wh_sgn]; exact hret _ news _ _ (by assumption) (by assumption) ⟨⟨_, rfl⟩, rfl⟩) | ((try rw [whole_units]); exact hret _ news _ _ (by assumption) (news_sub (by assumption) fun p hp => by first | exact hp | exact .tail _ hp) ⟨⟨_, rfl⟩, rfl⟩)
    | dec b2 c2 e2 t3 t4 k2 hm2 =>
      have hB := DecOk.big hO2
      obtain ⟨hB1, hB2⟩ := hB
      have hB3 := DecOk.lo hO2
      have hB4 := DecOk.hi hO2
      refine wpAny_call ?_
      k_dflt ktr_enter
      k_steps
      all_goals first | (rw [wh_sgn]; exact hret _ news _ _ (by assumption) (by assumption) ⟨⟨_, rfl⟩, rfl⟩) | ((try rw [whole_units]); exact hret _ news _ _ (by assumption) (news_sub (by assumption) fun p hp => by first | exact hp | exact .tail _ hp) ⟨⟨_, rfl⟩, rfl⟩)
end

section
open PySem PySem.W PyProof.Rows
local macro_rules | `(tactic| k_mem) => `(tactic| first | assumption | exact List.Mem.tail _ (by assumption) | exact List.Mem.tail _ (List.Mem.tail _ (by assumption)) | exact List.Mem.tail _ (List.Mem.tail _ (List.Mem.tail _ (by assumption))))
set_option maxRecDepth 100000 in
set_option maxHeartbeats 8000000 in
theorem told_c (v : Value) (d : Num) (news : List (Addr × Obj)) (hR : NumIn news v d) : Con 1 276 [v] news (fun r news' => v = r ∧ news = news') := by
  unfold Con
  k_fill
  k_with_none
  intro w mean mg mb dp un gd cn cs a ccd cl outer A₀ base h₀ L m s Q E B F X N T hk hd hu hret
  cases hR with
  | whole n t =>
    refine wpAny_call ?_
    k_dflt ktr_enter
    k_steps
    exact hret _ news _ _ (by assumption) (by assumption) ⟨rfl, rfl⟩
  | dec b c e t1 t2 k hm =>
    refine wpAny_call ?_
    k_dflt ktr_enter
    k_steps
    exact hret _ news _ _ (by assumption) (by assumption) ⟨rfl, rfl⟩
theorem sgn_neg {x y : Int} : sgn x y < 0 ↔ x < y := by unfold sgn; split <;> (try split) <;> omega
theorem sgn_pos {x y : Int} : 0 < sgn x y ↔ y < x := by unfold sgn; split <;> (try split) <;> omega
theorem sgn_zero {x y : Int} : sgn x y = 0 ↔ x = y := by unfold sgn; split <;> (try split) <;> omega
set_option maxRecDepth 100000 in
set_option maxHeartbeats 8000000 in
theorem min_c (wv : Value) (al : Addr) (kl : Nat) (v1 v2 : Value) (d1 d2 : Num) (news : List (Addr × Obj)) (hR1 : NumIn news v1 d1) (hR2 : NumIn news v2 d2) (hO1 : d1.Ok) (hO2 : d2.Ok) (hm : (al, ({ cls := .type "list", data := .seq #[v1, v2] kl } : Obj)) ∈ news) :
  Con 4 283 [wv, .ref al] news (fun r news' => (if d2.units < d1.units then v2 else v1) = r ∧ news = news') := by
  unfold Con
  k_fill
  k_with_none
  k_with "call ref" => (k_here; (with_reducible show wpAny _ _ (call (Value.ref 276) _) _ _ _); k_dflt (refine' Con.use ?k1 ?k2 ?k3 ?k4 ?k5 ?kK (told_c _ _ _ ?p0) ?kd ?ku ?_; (case k1 => k_asm); (case k2 => k_asm); (case k3 => k_asm); (case k4 => k_asm); (case k5 => k_asm); (case kK => first | exact rfl | assumption); (case p0 => first | assumption | exact NumIn.mono (by assumption) (fun p hp => .tail _ hp) | exact NumIn.mono (by assumption) (fun p hp => .tail _ (.tail _ hp))); (case kd => ktr_room); (case ku => ktr_units); intro r9 n9 h9 tk9 F9 N9 R9; obtain ⟨e9, e8⟩ := R9; subst e9; subst e8;(try dsimp only); (try k_fold)))
  k_with "call ref" => (k_here; (with_reducible show wpAny _ _ (call (Value.ref 255) _) _ _ _); k_dflt (refine' Con.use ?k1 ?k2 ?k3 ?k4 ?k5 ?kK (order_c _ _ _ _ _ ?p0 ?p1 ?p2 ?p3) ?kd ?ku ?_; (case k1 => k_asm); (case k2 => k_asm); (case k3 => k_asm); (case k4 => k_asm); (case k5 => k_asm); (case kK => first | exact rfl | assumption); (case p0 => first | assumption | exact NumIn.mono (by assumption) (fun p hp => .tail _ hp) | exact NumIn.mono (by assumption) (fun p hp => .tail _ (.tail _ hp)) ); (case p1 =>  first | assumption | exact NumIn.mono (by assumption) (fun p hp => .tail _ hp) | exact NumIn.mono (by assumption) (fun p hp => .tail _ (.tail _ hp)) ); (case p2 =>  assumption ); (case p3 =>  assumption); (case kd => ktr_room); (case ku => ktr_units); intro r9 n9 h9 tk9 F9 N9 R9; obtain ⟨⟨t9, e9⟩, e8⟩ := R9; subst e9; subst e8;(try dsimp only); (try k_fold)))
  intro w mean mg mb dp un gd cn cs a ccd cl outer A₀ base h₀ L m s Q E B F X N T hk hd hu hret
  replace N := news_front N hm
  refine wpAny_call ?_
  k_dflt ktr_enter
  k_steps
  all_goals first
    | exact hret _ news _ _ (by assumption) (news_sub (by assumption) fun p hp => .tail _ (.tail _ hp)) ⟨if_pos (sgn_neg.mp (by assumption)), rfl⟩
    | exact hret _ news _ _ (by assumption) (news_sub (by assumption) fun p hp => .tail _ (.tail _ hp)) ⟨if_neg (fun h => absurd (sgn_neg.mpr h) (by assumption)), rfl⟩
set_option maxRecDepth 100000 in
set_option maxHeartbeats 8000000 in
theorem max_c (wv : Value) (al : Addr) (kl : Nat) (v1 v2 : Value) (d1 d2 : Num) (news : List (Addr × Obj)) (hR1 : NumIn news v1 d1) (hR2 : NumIn news v2 d2) (hO1 : d1.Ok) (hO2 : d2.Ok) (hm : (al, ({ cls := .type "list", data := .seq #[v1, v2] kl } : Obj)) ∈ news) :
  Con 4 290 [wv, .ref al] news (fun r news' => (if d1.units < d2.units then v2 else v1) = r ∧ news = news') := by
  unfold Con
  k_fill
  k_with_none
  k_with "call ref" => (k_here; (with_reducible show wpAny _ _ (call (Value.ref 276) _) _ _ _); k_dflt (refine' Con.use ?k1 ?k2 ?k3 ?k4 ?k5 ?kK (told_c _ _ _ ?p0) ?kd ?ku ?_; (case k1 => k_asm); (case k2 => k_asm); (case k3 => k_asm); (case k4 => k_asm); (case k5 => k_asm); (case kK => first | exact rfl | assumption); (case p0 => first | assumption | exact NumIn.mono (by assumption) (fun p hp => .tail _ hp) | exact NumIn.mono (by assumption) (fun p hp => .tail _ (.tail _ hp))); (case kd => ktr_room); (case ku => ktr_units); intro r9 n9 h9 tk9 F9 N9 R9; obtain ⟨e9, e8⟩ := R9; subst e9; subst e8;(try dsimp only); (try k_fold)))
  k_with "call ref" => (k_here; (with_reducible show wpAny _ _ (call (Value.ref 255) _) _ _ _); k_dflt (refine' Con.use ?k1 ?k2 ?k3 ?k4 ?k5 ?kK (order_c _ _ _ _ _ ?p0 ?p1 ?p2 ?p3) ?kd ?ku ?_; (case k1 => k_asm); (case k2 => k_asm); (case k3 => k_asm); (case k4 => k_asm); (case k5 => k_asm); (case kK => first | exact rfl | assumption); (case p0 => first | assumption | exact NumIn.mono (by assumption) (fun p hp => .tail _ hp) | exact NumIn.mono (by assumption) (fun p hp => .tail _ (.tail _ hp)) ); (case p1 =>  first | assumption | exact NumIn.mono (by assumption) (fun p hp => .tail _ hp) | exact NumIn.mono (by assumption) (fun p hp => .tail _ (.tail _ hp)) ); (case p2 =>  assumption ); (case p3 =>  assumption); (case kd => ktr_room); (case ku => ktr_units); intro r9 n9 h9 tk9 F9 N9 R9; obtain ⟨⟨t9, e9⟩, e8⟩ := R9; subst e9; subst e8;(try dsimp only); (try k_fold)))
  intro w mean mg mb dp un gd cn cs a ccd cl outer A₀ base h₀ L m s Q E B F X N T hk hd hu hret
  replace N := news_front N hm
  refine wpAny_call ?_
  k_dflt ktr_enter
  k_steps
  all_goals first
    | exact hret _ news _ _ (by assumption) (news_sub (by assumption) fun p hp => .tail _ (.tail _ hp)) ⟨if_pos (sgn_pos.mp (by assumption)), rfl⟩
    | exact hret _ news _ _ (by assumption) (news_sub (by assumption) fun p hp => .tail _ (.tail _ hp)) ⟨if_neg (fun h => absurd (sgn_pos.mpr h) (by assumption)), rfl⟩
end

section
open PySem PySem.W PyProof.Rows
set_option maxRecDepth 100000 in
set_option maxHeartbeats 8000000 in
theorem units_c (v : Value) (d : Num) (news : List (Addr × Obj)) (hR : NumIn news v d) (hO : d.Ok) : Con 1 361 [v] news (fun r news' => (∃ t', r = .int d.units t') ∧ news = news') := by
  unfold Con
  k_fill
  k_with_none
  intro w mean mg mb dp un gd cn cs a ccd cl outer A₀ base h₀ L m s Q E B F X N T hk hd hu hret
  cases hR with
  | whole n t =>
    obtain ⟨hO1, hO2⟩ := hO
    refine wpAny_call ?_
    k_dflt ktr_enter
    k_steps
    exact hret _ news _ _ (by assumption) (by assumption) ⟨⟨_, rfl⟩, rfl⟩
  | dec b c e t1 t2 k hm =>
    have hb1 := DecOk.big hO
    obtain ⟨hO1, hO2⟩ := hb1
    have hO3 := DecOk.lo hO
    have hO4 := DecOk.hi hO
    refine wpAny_call ?_
    k_dflt ktr_enter
    k_steps
    exact hret _ news _ _ (by assumption) (by assumption) ⟨⟨_, rfl⟩, rfl⟩
end

section
open PySem PySem.W PyProof.Rows
theorem mod_nat {x m : Int} (h : 1 ≤ m) : 0 ≤ x.fmod m ∧ x.fmod m < m := ⟨by rw [Int.fmod_eq_emod_of_nonneg _ (by omega)]; exact Int.emod_nonneg _ (by omega), Int.fmod_lt_of_pos _ (by omega)⟩
set_option maxRecDepth 100000 in
set_option maxHeartbeats 8000000 in
theorem next_c (d l : Addr) (k : Int) (t t' : Tok) (c c' : Nat) (mm : Int) (vs : List Value) (ns : List Int) (rest : List (Addr × Obj)) (hv : IntsAre vs ns) (h0 : 0 ≤ k) (h1 : k < 10^6) (h2 : 1 ≤ mm) (h3 : mm ≤ 30000) (hlen : ns.length < 64)
   (hne : OwnOff rest [d]) (hm : (l, ({ cls := .type "list", data := .seq vs.toArray c' } : Obj)) ∈ rest) :
   Con 1 354 [.ref d, .int mm t'] ((d, W.listOf #[.int k t, .ref l] c) :: rest) (fun r news' => ∃ n t' u, r = .int n t' ∧ 0 ≤ n ∧ n < mm ∧ (d, W.listOf #[.int (k + 1) u, .ref l] c) :: rest = news') := by
  unfold Con
  k_fill
  k_with_none
  intro w mean mg mb dp un gd cn cs a ccd cl outer A₀ base h₀ L m s Q E B F X N T hk hd hu hret
  obtain ⟨om, hom⟩ : ∃ o, o = ({ cls := .type "list", data := .seq vs.toArray c' } : Obj) := ⟨_, rfl⟩
  have N2 : News h₀ L s.heap ((d, W.listOf #[.int k t, .ref l] c) :: (l, { cls := .type "list", data := .seq vs.toArray c' }) :: rest) := fun p hp => by
    rcases List.mem_cons.mp hp with e | hp
    · rw [e]; exact N _ (.head _)
    · rcases List.mem_cons.mp hp with e | hp
      · rw [e]; exact N _ (.tail _ hm)
      · exact N _ (.tail _ hp)
  have hld : l ≠ d := OwnOff.ne hne (.head _) _ hm
  clear N
  refine wpAny_call ?_
  k_dflt ktr_enter
  k_steps
  all_goals (exact hret _ _ _ _ (by assumption) (news_sub (by assumption) sub_mid) ⟨_, _, _, rfl, (mod_nat h2).1, (mod_nat h2).2, rfl⟩)
end

section
open PySem PySem.W PySem.Calls PyProof.Rows
/-- what a number is as plain data -/
def Num.data : Num → PyData
  | .whole n => .int n
  | .dec c e => .tuple [.int c, .int e]
theorem log_small {n : Int} (h : -10 ^ 12 ≤ n) (h' : n ≤ 10 ^ 12) : n.natAbs.log2 < 60 := by
  rcases Nat.eq_zero_or_pos n.natAbs with h0 | h0
  · rw [h0]; decide
  · exact (Nat.log2_lt (by omega)).mpr (by omega)
theorem text_small {n : Int} (h : -10 ^ 12 ≤ n) (h' : n ≤ 10 ^ 12) : (Str.ofString (toString n)).length ≤ 61 := by
  rw [PySem.ofString_length]
  exact PySem.int_text_length_le (by decide) (log_small h h')
theorem pair_small {c e : Int} (h1 : -10 ^ 12 ≤ c) (h2 : c ≤ 10 ^ 12) (h3 : -10 ^ 12 ≤ e) (h4 : e ≤ 10 ^ 12) : (PyData.tuple [.int c, .int e]).shown.length ≤ sizeLine := by
  have a := text_small h1 h2
  have b := text_small h3 h4
  have e0 : (PyData.tuple [.int c, .int e]).shown = tupleText [Str.ofString (toString c), Str.ofString (toString e)] := rfl
  rw [e0]
  unfold tupleText
  have j := join_length_add [Str.ofString (toString c), Str.ofString (toString e)] (by simp)
  simp only [piled, List.map_cons, List.map_nil, List.sum_cons, List.sum_nil] at j
  rw [Str.length_append, Str.length_append, sizeLine_eq]
  have h1 : (Str.ofString "(").length = 1 := by decide
  have h2 : (if ([Str.ofString (toString c), Str.ofString (toString e)].length == 1) = true then (",)" : String) else ")") = ")" := rfl
  rw [h2, h1]
  have h3 : (Str.ofString ")").length = 1 := by decide
  rw [h3]
  omega
section
variable {prog : Program} {w : World} {A : Around} {E : Value → Shared → Prop} {s : Shared} {h₀ : Heap} {L : Addr} {m : Str → Option Value}
theorem repr_num {v : Value} {d : Num} {news : List (Addr × Obj)} {Q : Value → Shared → Prop} (hR : NumIn news v d) (hO : d.Ok) (F : Fr h₀ L s.heap m) (N : News h₀ L s.heap news) (hg : A.guards = some []) (hu : A.units + 8 < cLine)
    (hQ : ∀ h' u tk, Fr h₀ L h' m → News h₀ L h' news → Q (.str d.data.shown u) { s with heap := h', toks := tk }) :
    wpAny (model prog w) A (call (.builtin "repr") [v]) Q E s := by
  cases hR with
  | whole n t =>
    obtain ⟨h1, h2⟩ := hO
    exact P.repr_of_int (Nat.lt_trans (log_small (by omega) (by omega)) (by decide)) (hQ s.heap _ _ F N)
  | dec b c e t1 t2 k hm =>
    have hb := DecOk.big hO
    have h3 := DecOk.lo hO
    have h4 := DecOk.hi hO
    have r : Reads s.heap (.ref b) (.tuple [.int c, .int e]) [] := .tuple (N _ hm).1 rfl rfl (.cons (as := []) (bs := []) (.int c t1) (.cons (as := []) (bs := []) (.int e t2) .nil))
    have hd : (PyData.tuple [.int c, .int e]).depth = 1 := rfl
    have hs : (PyData.tuple [.int c, .int e]).showable = true := by
      show (decide (c.natAbs.log2 < 1920) && (decide (e.natAbs.log2 < 1920) && true)) = true
      rw [decide_eq_true (Nat.lt_trans (log_small (by omega) (by omega)) (by decide)), decide_eq_true (Nat.lt_trans (log_small (by omega) (by omega)) (by decide))]
      rfl
    have hz := pair_small (c := c) (e := e) (by omega) (by omega) (by omega) (by omega)
    refine repr_of_reads' r hs (fun q => by cases q) hg ?_ (fun _ _ e => e) (fun h' u tk hk => ?_) hz
    · rw [hd]; generalize cLine = z at hu ⊢; omega
    exact hQ h' u tk (F.keptAll hk) (N.grown hk)
end
end

section
open PySem PySem.W PySem.Calls PyProof.Rows
/-- the law's list of numbers: values and what they are -/
inductive NumsIn (news : List (Addr × Obj)) : List Value → List Num → Prop where
  | nil : NumsIn news [] []
  | cons {v : Value} {d : Num} {vs : List Value} {ds : List Num} : NumIn news v d → d.Ok → NumsIn news vs ds → NumsIn news (v :: vs) (d :: ds)
theorem NumsIn.mono {news news' : List (Addr × Obj)} {vs : List Value} {ds : List Num} (h : NumsIn news vs ds) (hs : ∀ p ∈ news, p ∈ news') : NumsIn news' vs ds := by
  induction h with
  | nil => exact .nil
  | cons a b _ ih => exact .cons (a.mono hs) b ih
theorem NumsIn.length {news : List (Addr × Obj)} {vs : List Value} {ds : List Num} (h : NumsIn news vs ds) : vs.length = ds.length := by
  induction h with
  | nil => rfl
  | cons _ _ _ ih => rw [List.length_cons, List.length_cons, ih]
theorem NumsIn.snoc {news : List (Addr × Obj)} {vs : List Value} {ds : List Num} {v : Value} {d : Num} (h : NumsIn news vs ds) (hv : NumIn news v d) (ho : d.Ok) : NumsIn news (vs ++ [v]) (ds ++ [d]) := by
  induction h with
  | nil => exact .cons hv ho .nil
  | cons a b _ ih => exact .cons a b ih
theorem NumsIn.get {news : List (Addr × Obj)} {vs : List Value} {ds : List Num} (h : NumsIn news vs ds) : ∀ (i : Nat) (v : Value), vs[i]? = some v → ∃ d, ds[i]? = some d ∧ NumIn news v d ∧ d.Ok := by
  induction h with
  | nil => intro i v e; simp at e
  | cons a b _ ih =>
    intro i v e
    cases i with
    | zero => simp at e; subst e; exact ⟨_, rfl, a, b⟩
    | succ i => simpa using ih i v (by simpa using e)
theorem NumsIn.last {news : List (Addr × Obj)} {vs : List Value} {ds : List Num} (h : NumsIn news vs ds) (hne : vs ≠ []) : ∃ v d, vs[vs.length - 1]? = some v ∧ NumIn news v d ∧ d.Ok := by
  have hl : vs.length - 1 < vs.length := by
    cases vs with
    | nil => exact absurd rfl hne
    | cons a r => simp
  obtain ⟨d, _, h1, h2⟩ := h.get (vs.length - 1) _ (List.getElem?_eq_getElem hl)
  exact ⟨_, d, List.getElem?_eq_getElem hl, h1, h2⟩
theorem nums_lay : ∀ ds : List Num, PyData.canLayAll0 (ds.map Num.data) = true
  | [] => rfl
  | .whole _ :: r => by simp [PyData.canLayAll0, PyData.canLay0, Num.data, nums_lay r]
  | .dec _ _ :: r => by simp [PyData.canLayAll0, PyData.canLay0, Num.data, nums_lay r]
theorem nums_depth : ∀ ds : List Num, PyData.depthAll (ds.map Num.data) ≤ 1
  | [] => by simp [PyData.depthAll]
  | .whole _ :: r => by simp only [List.map_cons, PyData.depthAll, Num.data, PyData.depth]; have := nums_depth r; omega
  | .dec _ _ :: r => by simp only [List.map_cons, PyData.depthAll, Num.data, PyData.depth]; have := nums_depth r; omega
theorem nums_shaped (ds : List Num) : SeqAt.shaped (.list (ds.map Num.data)) = true := by
  have h := nums_depth ds
  show (PyData.canLayAll0 (ds.map Num.data) && decide (PyData.depthAll (ds.map Num.data) + 1 ≤ 64)) = true
  rw [nums_lay, decide_eq_true (by omega)]
  rfl
theorem nums_reads {h₀ h : Heap} {L : Addr} {news : List (Addr × Obj)} (N : News h₀ L h news) {vs : List Value} {ds : List Num} (x : NumsIn news vs ds) : ReadsAll h vs (ds.map Num.data) [] := by
  induction x with
  | nil => exact .nil
  | cons a _ _ ih =>
    refine ReadsAll.cons (as := []) (bs := []) ?_ ih
    cases a with
    | whole n t => exact .int n t
    | dec b c e t1 t2 k hm => exact .tuple (N _ hm).1 rfl rfl (.cons (as := []) (bs := []) (.int c t1) (.cons (as := []) (bs := []) (.int e t2) .nil))
section
variable {prog : Program} {w : World} {A : Around} {E : Value → Shared → Prop} {s : Shared} {h₀ : Heap} {L : Addr}
theorem ne_nil_num {a b : Addr} {k k' : Nat} {vs : List Value} {ds : List Num} {news : List (Addr × Obj)} {Q : Value → Shared → Prop} (N : News h₀ L s.heap news) (ha : (a, ({ cls := .type "list", data := .seq vs.toArray k } : Obj)) ∈ news)
    (hb : (b, ({ cls := .type "list", data := .seq ([] : List Value).toArray k' } : Obj)) ∈ news) (hn : NumsIn news vs ds) (hne : vs ≠ []) (hu : A.units + 64 < cLine) (h : Q (.bool true) s) :
    wpAny (model prog w) A (compareOp .NotEq (.ref a) (.ref b)) Q E s := by
  have ra : Reads s.heap (.ref a) (.list (ds.map Num.data)) [a] := .list (as := []) (N _ ha).1 rfl rfl (nums_reads N hn)
  have rb : Reads s.heap (.ref b) (.list (([] : List Num).map Num.data)) [b] := .list (as := []) (N _ hb).1 rfl rfl .nil
  refine ne_dataH ra rb (nums_shaped _) (nums_shaped _) hu ?_
  cases ds with
  | nil =>
    have := hn.length
    cases vs with
    | nil => exact absurd rfl hne
    | cons _ _ => simp at this
  | cons d r =>
    have e : (PyData.list ((d :: r).map Num.data)).eqv (.list (([] : List Num).map Num.data)) = false := by simp [PyData.eqv, PyData.eqvAll]
    rw [e]
    exact h
theorem ne_nil_nil {a b : Addr} {k k' : Nat} {news : List (Addr × Obj)} {Q : Value → Shared → Prop} (N : News h₀ L s.heap news) (ha : (a, ({ cls := .type "list", data := .seq ([] : List Value).toArray k } : Obj)) ∈ news)
    (hb : (b, ({ cls := .type "list", data := .seq ([] : List Value).toArray k' } : Obj)) ∈ news) (hu : A.units + 64 < cLine) (h : Q (.bool false) s) :
    wpAny (model prog w) A (compareOp .NotEq (.ref a) (.ref b)) Q E s :=
  ke_ne_ints ⟨_, (N _ ha).1, rfl, _, rfl⟩ ⟨_, (N _ hb).1, rfl, _, rfl⟩ .nil .nil hu (by simpa using h)
end
/-- what _law_number hands back: a number, and the ledger with the drum two further on and what was made -/
def NumR (d l : Addr) (c : Nat) (k : Int) (rest : List (Addr × Obj)) (r : Value) (news' : List (Addr × Obj)) : Prop :=
  ∃ u ext dd, NumIn ext r dd ∧ dd.Ok ∧ (∀ p ∈ ext, d < p.1 ∧ ∀ q ∈ rest, q.1 < p.1) ∧ (d, W.listOf #[.int k u, .ref l] c) :: (ext ++ rest) = news'
section
variable {h₀ h' : Heap} {L : Addr} {m : Str → Option Value} {s : Shared} {Q : Value → Shared → Prop} {d l : Addr} {c : Nat} {k : Int} {rest big : List (Addr × Obj)} {u : Tok} {tk : Nat}
theorem num_whole {n : Int} {t : Tok} (hret : ∀ r news' h' tk', Fr h₀ L h' m → News h₀ L h' news' → NumR d l c k rest r news' → Q r { s with heap := h', toks := tk' })
    (F : Fr h₀ L h' m) (N : News h₀ L h' big) (hd : (d, W.listOf #[.int k u, .ref l] c) ∈ big) (hr : ∀ p ∈ rest, p ∈ big) (h1 : -30000 ≤ n) (h2 : n ≤ 30000) : Q (.int n t) { s with heap := h', toks := tk } :=
  hret _ _ _ _ F (news_sub N (sub_cons hd hr)) ⟨u, [], .whole n, .whole n t, num_okw h1 h2, fun _ h => (nomatch h), rfl⟩
theorem num_dec {b : Addr} {x e : Int} {t1 t2 : Tok} {kk : Nat} (hret : ∀ r news' h' tk', Fr h₀ L h' m → News h₀ L h' news' → NumR d l c k rest r news' → Q r { s with heap := h', toks := tk' })
    (F : Fr h₀ L h' m) (N : News h₀ L h' ((b, ({ cls := .type "tuple", data := .seq #[.int x t1, .int e t2] kk } : Obj)) :: big)) (hl : ∀ p ∈ big, p.1 < b) (hd : (d, W.listOf #[.int k u, .ref l] c) ∈ big) (hr : ∀ p ∈ rest, p ∈ big) (ho : DecOk x e) : Q (.ref b) { s with heap := h', toks := tk } :=
  hret _ _ _ _ F (news_sub N (sub_cons (.tail _ hd) (sub_cons (.head _) fun p hp => .tail _ (hr p hp)))) ⟨u, [_], .dec x e, .dec b x e t1 t2 kk (.head _), num_ok ho, fun p hp => by
    rw [List.mem_singleton.mp hp]
    exact ⟨hl _ hd, fun q hq => hl q (hr q hq)⟩, rfl⟩
end
theorem ok_units {d : Num} (h : d.Ok) : -10 ^ 9 ≤ d.units ∧ d.units ≤ 10 ^ 9 := by
  cases d with
  | whole n =>
    obtain ⟨h1, h2⟩ := h
    show -10 ^ 9 ≤ 1000 * n ∧ 1000 * n ≤ 10 ^ 9
    omega
  | dec c e => exact ⟨DecOk.dn h, DecOk.up h⟩
theorem near_fits {u : Int} (h : -10 ^ 9 ≤ u) (h' : u ≤ 10 ^ 9) : -10 ^ 6 ≤ u.fdiv 1000 ∧ u.fdiv 1000 ≤ 10 ^ 6 := by
  have h1 := Int.mul_fdiv_add_fmod u 1000
  have h2 : 0 ≤ u.fmod 1000 := by rw [Int.fmod_eq_emod_of_nonneg _ (by decide)]; exact Int.emod_nonneg _ (by decide)
  have h3 : u.fmod 1000 < 1000 := Int.fmod_lt_of_pos _ (by decide)
  omega
section
variable {prog : Program} {w : World} {A : Around} {E : Value → Shared → Prop} {s : Shared} {h₀ : Heap} {L : Addr}
theorem last_item {value slice : PySem.Expr} {l : Addr} {k : Nat} {u : Tok} {vs : List Value} {v : Value} {news : List (Addr × Obj)} {Q : Value → Shared → Prop} (N : News h₀ L s.heap news) (ha : (l, ({ cls := .type "list", data := .seq vs.toArray k } : Obj)) ∈ news)
    (hx : vs[vs.length - 1]? = some v) (h : Q v s)
    (hs : subscripted slice false (.ref l) (.int (-1) u) = operate [.ref l, .int (-1) u] (getItem (.ref l) (.int (-1) u)) := by with_unfolding_all rfl) :
    wpAny (model prog w) A (subscriptTail value slice (.ref l) (.int (-1) u)) Q E s := by
  have hl : 0 < vs.length := by
    cases vs with
    | nil => simp at hx
    | cons _ _ => simp
  refine kde_neg (j := vs.length - 1) ⟨_, (N _ ha).1, rfl, _, rfl⟩ (by decide) (by decide) ?_ hx h hs
  unfold seqIndex?
  have e : (vs.length : Int) + -1 = ((vs.length - 1 : Nat) : Int) := by omega
  simp
  omega
end
end

section
open PySem PySem.W PyProof.Rows
local macro_rules | `(tactic| k_mem) => `(tactic| first | assumption | exact List.Mem.tail _ (by assumption) | exact List.Mem.tail _ (List.Mem.tail _ (by assumption)) | exact List.Mem.tail _ (List.Mem.tail _ (List.Mem.tail _ (by assumption))))
theorem menu_lo (a : Int) (i : Nat) (h : -29999 ≤ a) : -30000 ≤ a + ([0, 1, 0 - 1] : List Int).getD i 0 := by
  rcases i with _ | _ | _ | i <;> simp [List.getD] <;> omega
theorem menu_hi (a : Int) (i : Nat) (h : a ≤ 29999) : a + ([0, 1, 0 - 1] : List Int).getD i 0 ≤ 30000 := by
  rcases i with _ | _ | _ | i <;> simp [List.getD] <;> omega
set_option maxRecDepth 100000 in
set_option maxHeartbeats 8000000 in
theorem number0_c (d l nl : Addr) (k g : Int) (t tg : Tok) (c c' cn : Nat) (vs : List Value) (ns : List Int) (rest : List (Addr × Obj)) (hv : IntsAre vs ns) (h0 : 0 ≤ k) (h1 : k < 1000) (hlen : ns.length < 64) (hg : 2 ≤ g) (hg' : g ≤ 7)
   (hne : OwnOff rest [d]) (hm : (l, ({ cls := .type "list", data := .seq vs.toArray c' } : Obj)) ∈ rest) (hnl : (nl, ({ cls := .type "list", data := .seq ([] : List Value).toArray cn } : Obj)) ∈ rest) :
   Con 10 368 [.ref d, .ref nl, .int g tg] ((d, W.listOf #[.int k t, .ref l] c) :: rest) (NumR d l c (k + 1 + 1) rest) := by
  unfold Con
  k_fill
  k_with_none
  k_with "compareOp NotEq ref ref" => (k_here; (with_reducible show wpAny _ _ (compareOp CmpOp.NotEq (Value.ref _) (Value.ref _)) _ _ _); k_dflt (refine' ne_nil_nil ?k1 ?k2 ?k3 ?k4 ?_; (case k1 => k_asm); (case k2 => k_mem); (case k3 => k_mem); (case k4 => ktr_units); k_whole))
  k_with "call ref" => (k_here; (with_reducible show wpAny _ _ (call (Value.ref 354) _) _ _ _); k_dflt (refine' Con.use ?k1 ?k2 ?k3 ?k4 ?k5 ?kK (next_c _ _ _ _ _ _ _ _ _ _ _ ?p0 ?p1 ?p2 ?p3 ?p4 ?p5 ?p6 ?p7) ?kd ?ku ?_; (case k1 => k_asm); (case k2 => k_asm); (case k3 => k_asm); (case k4 => k_asm); (case k5 => k_asm); (case kK => first | exact rfl | assumption); (case p0 => assumption ); (case p1 =>  omega ); (case p2 =>  omega ); (case p3 =>  omega ); (case p4 =>  omega ); (case p5 =>  omega ); (case p6 =>  assumption ); (case p7 =>  assumption); (case kd => ktr_room); (case ku => ktr_units); intro r9 n9 h9 tk9 F9 N9 R9; obtain ⟨x9, t9, u9, e9, g9, q9, e8⟩ := R9; subst e9; subst e8; (have hM9 := mod_nat (x := x9) (m := 4) (by decide));(try dsimp only); (try k_fold)))
  k_with "call ref" => (k_here; (with_reducible show wpAny _ _ (call (Value.ref 361) _) _ _ _); k_dflt (refine' Con.use ?k1 ?k2 ?k3 ?k4 ?k5 ?kK (units_c _ _ _ ?p0 ?p1) ?kd ?ku ?_; (case k1 => k_asm); (case k2 => k_asm); (case k3 => k_asm); (case k4 => k_asm); (case k5 => k_asm); (case kK => first | exact rfl | assumption); (case p0 => first | assumption | exact NumIn.mono (by assumption) (fun p hp => .tail _ hp) | exact NumIn.mono (by assumption) (fun p hp => .tail _ (.tail _ hp)) | exact NumIn.mono (by assumption) (fun p hp => .tail _ (.tail _ (.tail _ hp))) ); (case p1 =>  assumption); (case kd => ktr_room); (case ku => ktr_units); intro r9 n9 h9 tk9 F9 N9 R9; obtain ⟨⟨t9, e9⟩, e8⟩ := R9; subst e9; subst e8;(try dsimp only); (try k_fold)))
  k_with "call ref" => (k_here; (with_reducible show wpAny _ _ (call (Value.ref 65) _) _ _ _); k_dflt (refine' Con.use ?k1 ?k2 ?k3 ?k4 ?k5 ?kK (made_c _ _ _ _ _ _ _ ?p0 ?p1 ?p2 ?p3 ?p4 ?p5) ?kd ?ku ?_; (case k1 => k_asm); (case k2 => k_asm); (case k3 => k_asm); (case k4 => k_asm); (case k5 => k_asm); (case kK => first | exact rfl | assumption); (case p0 => omega ); (case p1 =>  omega ); (case p2 =>  omega ); (case p3 =>  omega ); (case p4 =>  omega ); (case p5 =>  omega); (case kd => ktr_room); (case ku => ktr_units); intro r9 n9 h9 tk9 F9 N9 R9; obtain ⟨b9, c9, x9, t9, u9, k9, e9, o9, l9, e8⟩ := R9; subst e9; subst e8;(try dsimp only); (try k_fold)))
  intro w mean mg mb dp un gd cn cs a ccd cl outer A₀ base h₀ L m s Q E B F X N T hk hd hu hret
  refine wpAny_call ?_
  k_dflt ktr_enter
  k_steps
  all_goals first
    | (refine' num_whole hret ?F ?N ?d ?r ?a ?b; (case F => assumption); (case N => assumption); (case d => exact (by repeat (first | exact .head _ | refine .tail _ ?_))); (case r => exact (fun p hp => by repeat (first | exact hp | refine .tail _ ?_)));
        (case a => first | omega | exact menu_lo _ _ (by omega)); (case b => first | omega | exact menu_hi _ _ (by omega)))
    | (refine' num_dec hret ?F ?N ?l ?d ?r ?o; (case F => assumption); (case N => assumption); (case l => assumption); (case d => exact (by repeat (first | exact .head _ | refine .tail _ ?_))); (case r => exact (fun p hp => by repeat (first | exact hp | refine .tail _ ?_))); (case o => assumption))
end

section
open PySem PySem.W PyProof.Rows
local macro_rules | `(tactic| k_mem) => `(tactic| first | assumption | exact List.Mem.tail _ (by assumption) | exact List.Mem.tail _ (List.Mem.tail _ (by assumption)) | exact List.Mem.tail _ (List.Mem.tail _ (List.Mem.tail _ (by assumption))))
set_option maxRecDepth 100000 in
set_option maxHeartbeats 8000000 in
theorem numberS_c (d l nl : Addr) (k g : Int) (t tg : Tok) (c c' cn : Nat) (vs : List Value) (ns : List Int) (rest : List (Addr × Obj)) (hv : IntsAre vs ns) (h0 : 0 ≤ k) (h1 : k < 1000) (hlen : ns.length < 64) (hg : 2 ≤ g) (hg' : g ≤ 7)
   (hne : OwnOff rest [d]) (hm : (l, ({ cls := .type "list", data := .seq vs.toArray c' } : Obj)) ∈ rest) (nvs : List Value) (nds : List Num) (hnl : (nl, ({ cls := .type "list", data := .seq nvs.toArray cn } : Obj)) ∈ rest) (hnn : NumsIn rest nvs nds) (hne2 : nvs ≠ []) :
   Con 10 368 [.ref d, .ref nl, .int g tg] ((d, W.listOf #[.int k t, .ref l] c) :: rest) (NumR d l c (k + 1 + 1) rest) := by
  unfold Con
  k_fill
  k_with_none
  k_with "compareOp NotEq ref ref" => (k_here; (with_reducible show wpAny _ _ (compareOp CmpOp.NotEq (Value.ref _) (Value.ref _)) _ _ _); k_dflt (refine' ne_nil_num ?k1 ?k2 ?k3 ?k5 ?k6 ?k4 ?_; (case k1 => k_asm); (case k2 => k_mem); (case k3 => k_mem); (case k5 => exact NumsIn.mono (by assumption) (fun p hp => .tail _ (.tail _ (.tail _ hp)))); (case k6 => assumption); (case k4 => ktr_units); k_whole))
  k_with "call ref" => (k_here; (with_reducible show wpAny _ _ (call (Value.ref 354) _) _ _ _); k_dflt (refine' Con.use ?k1 ?k2 ?k3 ?k4 ?k5 ?kK (next_c _ _ _ _ _ _ _ _ _ _ _ ?p0 ?p1 ?p2 ?p3 ?p4 ?p5 ?p6 ?p7) ?kd ?ku ?_; (case k1 => k_asm); (case k2 => k_asm); (case k3 => k_asm); (case k4 => k_asm); (case k5 => k_asm); (case kK => first | exact rfl | assumption); (case p0 => assumption ); (case p1 =>  omega ); (case p2 =>  omega ); (case p3 =>  omega ); (case p4 =>  omega ); (case p5 =>  omega ); (case p6 =>  assumption ); (case p7 =>  assumption); (case kd => ktr_room); (case ku => ktr_units); intro r9 n9 h9 tk9 F9 N9 R9; obtain ⟨x9, t9, u9, e9, g9, q9, e8⟩ := R9; subst e9; subst e8; (have hM9 := mod_nat (x := x9) (m := 4) (by decide));(try dsimp only); (try k_fold)))
  k_with "call ref" => (k_here; (with_reducible show wpAny _ _ (call (Value.ref 361) _) _ _ _); k_dflt (refine' Con.use ?k1 ?k2 ?k3 ?k4 ?k5 ?kK (units_c _ _ _ ?p0 ?p1) ?kd ?ku ?_; (case k1 => k_asm); (case k2 => k_asm); (case k3 => k_asm); (case k4 => k_asm); (case k5 => k_asm); (case kK => first | exact rfl | assumption); (case p0 => first | assumption | exact NumIn.mono (by assumption) (fun p hp => .tail _ hp) | exact NumIn.mono (by assumption) (fun p hp => .tail _ (.tail _ hp)) | exact NumIn.mono (by assumption) (fun p hp => .tail _ (.tail _ (.tail _ hp))) ); (case p1 =>  assumption); (case kd => ktr_room); (case ku => ktr_units); intro r9 n9 h9 tk9 F9 N9 R9; obtain ⟨⟨t9, e9⟩, e8⟩ := R9; subst e9; subst e8;(try dsimp only); (try k_fold)))
  k_with "call ref" => (k_here; (with_reducible show wpAny _ _ (call (Value.ref 65) _) _ _ _); k_dflt (refine' Con.use ?k1 ?k2 ?k3 ?k4 ?k5 ?kK (made_c _ _ _ _ _ _ _ ?p0 ?p1 ?p2 ?p3 ?p4 ?p5) ?kd ?ku ?_; (case k1 => k_asm); (case k2 => k_asm); (case k3 => k_asm); (case k4 => k_asm); (case k5 => k_asm); (case kK => first | exact rfl | assumption); (case p0 => omega ); (case p1 =>  omega ); (case p2 =>  omega ); (case p3 =>  omega ); (case p4 =>  omega ); (case p5 =>  omega); (case kd => ktr_room); (case ku => ktr_units); intro r9 n9 h9 tk9 F9 N9 R9; obtain ⟨b9, c9, x9, t9, u9, k9, e9, o9, l9, e8⟩ := R9; subst e9; subst e8;(try dsimp only); (try k_fold)))
  k_with "subscriptTail" => (k_here; (with_reducible show wpAny _ _ (subscriptTail _ _ (Value.ref _) (Value.int (-1) _)) _ _ _); k_dflt (refine' last_item ?k1 ?k2 ?k3 ?_ ?k5; (case k1 => k_asm); (case k2 => k_mem); (case k3 => assumption); (case k5 => with_unfolding_all rfl); k_whole))
  intro w mean mg mb dp un gd cn cs a ccd cl outer A₀ base h₀ L m s Q E B F X N T hk hd hu hret
  obtain ⟨lv, ld, hlx, hln, hlo⟩ := hnn.last hne2
  have hU := ok_units hlo
  have hD := near_fits hU.1 hU.2
  refine wpAny_call ?_
  k_dflt ktr_enter
  k_steps
  all_goals first
    | (refine' num_whole hret ?F ?N ?d ?r ?a ?b; (case F => assumption); (case N => assumption); (case d => exact (by repeat (first | exact .head _ | refine .tail _ ?_))); (case r => exact (fun p hp => by repeat (first | exact hp | refine .tail _ ?_)));
        (case a => first | omega | exact menu_lo _ _ (by omega)); (case b => first | omega | exact menu_hi _ _ (by omega)))
    | (refine' num_dec hret ?F ?N ?l ?d ?r ?o; (case F => assumption); (case N => assumption); (case l => assumption); (case d => exact (by repeat (first | exact .head _ | refine .tail _ ?_))); (case r => exact (fun p hp => by repeat (first | exact hp | refine .tail _ ?_))); (case o => assumption))
end

section
open PySem PySem.W PyProof.Rows
local macro_rules | `(tactic| k_mem) => `(tactic| first | assumption | exact List.Mem.tail _ (by assumption) | exact List.Mem.tail _ (List.Mem.tail _ (by assumption)) | exact List.Mem.tail _ (List.Mem.tail _ (List.Mem.tail _ (by assumption))))
set_option maxRecDepth 100000 in
set_option maxHeartbeats 8000000 in
theorem kind_c (v : Value) (d : Num) (news : List (Addr × Obj)) (hR : NumIn news v d) : Con 1 44 [v] news (fun r news' => (∃ x t, r = .str x t ∧ (x == Str.ofString "text") = false) ∧ news = news') := by
  unfold Con
  k_fill
  k_with_none
  intro w mean mg mb dp un gd cn cs a ccd cl outer A₀ base h₀ L m s Q E B F X N T hk hd hu hret
  cases hR with
  | whole n t =>
    refine wpAny_call ?_
    k_dflt ktr_enter
    k_steps
    exact hret _ news _ _ (by assumption) (by assumption) ⟨⟨_, _, rfl, by decide +kernel⟩, rfl⟩
  | dec b c e t1 t2 k hm =>
    refine wpAny_call ?_
    k_dflt ktr_enter
    k_steps
    exact hret _ news _ _ (by assumption) (by assumption) ⟨⟨_, _, rfl, by decide +kernel⟩, rfl⟩
end

section
open PySem PySem.W PyProof.Rows
local macro_rules | `(tactic| k_mem) => `(tactic| first | assumption | exact List.Mem.tail _ (by assumption) | exact List.Mem.tail _ (List.Mem.tail _ (by assumption)) | exact List.Mem.tail _ (List.Mem.tail _ (List.Mem.tail _ (by assumption))))
theorem pow2_big {b : Int} (h : 16 ≤ b) : (32768 : Int) ≤ 2 ^ (b - 1).toNat := by
  have h1 := Nat.pow_le_pow_right (n := 2) (by decide) (show 15 ≤ (b - 1).toNat by omega)
  have h2 : ((2 ^ 15 : Nat) : Int) ≤ ((2 ^ (b - 1).toNat : Nat) : Int) := by exact_mod_cast h1
  rw [Int.natCast_pow] at h2
  exact h2
set_option maxRecDepth 100000 in
set_option maxHeartbeats 8000000 in
theorem fits_c (x bits : Int) (t tb : Tok) (news : List (Addr × Obj)) (h0 : -30000 ≤ x) (h1 : x ≤ 30000) (hb : 16 ≤ bits) (hb' : bits ≤ 31) :
  Con 1 79 [.int x t, .int bits tb] news (fun r news' => r = .bool true ∧ news = news') := by
  unfold Con
  k_fill
  k_with_none
  intro w mean mg mb dp un gd cn cs a ccd cl outer A₀ base h₀ L m s Q E B F X N T hk hd hu hret
  have hp := pow2_big hb
  refine wpAny_call ?_
  k_dflt ktr_enter
  k_steps
  rw [decide_eq_true (by omega)]
  exact hret _ news _ _ (by assumption) (by assumption) ⟨rfl, rfl⟩
end

section
open PySem PySem.W PyProof.Rows
local macro_rules | `(tactic| k_mem) => `(tactic| first | assumption | exact List.Mem.tail _ (by assumption) | exact List.Mem.tail _ (List.Mem.tail _ (by assumption)) | exact List.Mem.tail _ (List.Mem.tail _ (List.Mem.tail _ (by assumption))))
set_option maxRecDepth 100000 in
set_option maxHeartbeats 8000000 in
theorem opp1_c (n : Int) (t : Tok) (wx wd : Addr) (es : List DictEntry) (en : Nat) (bits digits : Int) (tb td : Tok) (news : List (Addr × Obj)) (h0 : -30000 ≤ n) (h1 : n ≤ 30000) (hb : 16 ≤ bits) (hb' : bits ≤ 31)
   (hm1 : (wx, instObj 343 wd) ∈ news) (hm2 : (wd, dictOf es en) ∈ news) (hg1 : getL (Str.ofString "bits") es = some (some (.int bits tb))) (hg2 : getL (Str.ofString "digits") es = some (some (.int digits td))) :
  Con 6 382 [.int n t, .ref wx] news (fun r news' => (∃ t', r = .int (-n) t') ∧ news = news') := by
  unfold Con
  k_fill
  k_with_none
  k_with "getAttr ref" => (k_here; k_dflt (refine' get_own ?k1 ?k2 ?k3 ?k4 ?k5 ?k6 ?k7 ?k8 ?k9 ?_; (case k1 => k_asm); (case k2 => k_asm); (case k3 => k_inst); (case k4 => k_is); (case k5 => k_is); (case k6 => k_is); (case k7 => k_is); (case k8 => assumption); (case k9 => k_handed); k_whole))
  k_with "call ref" => (k_here; (with_reducible show wpAny _ _ (call (Value.ref 325) _) _ _ _); (refine wpAny_call ?_); k_dflt (refine' code_def ?k1 ?k2 ?k3 ?k4 ?k5 ?kA ?kF ?kK ?k6 ?k7 ?k8 ?k9 ?kB ?_ ?c2 ?c3 ?c4 ?c5; (case kA => exact rfl); (case kF => exact rfl); (case kK => first | exact rfl | assumption); (case k1 => k_asm); (case k2 => k_asm); (case k3 => k_asm); (case k4 => k_asm); (case k5 => k_asm); (case k6 => k_is); (case k7 => k_is); (case k8 => ktr_room); (case k9 => exact BindsTo.of_eq rfl); (case c5 => decide); (case kB => exact locs rfl); (case c2 => exact rfl); (case c3 => exact rfl); (case c4 => exact rfl); k_whole; intro g' L' h' FG' F' N' B' X' T'; (try dsimp only); (try k_fold)))
  k_with "call ref" => (k_here; (with_reducible show wpAny _ _ (call (Value.ref 248) _) _ _ _); (refine wpAny_call ?_); k_dflt (refine' code_def ?k1 ?k2 ?k3 ?k4 ?k5 ?kA ?kF ?kK ?k6 ?k7 ?k8 ?k9 ?kB ?_ ?c2 ?c3 ?c4 ?c5; (case kA => exact rfl); (case kF => exact rfl); (case kK => first | exact rfl | assumption); (case k1 => k_asm); (case k2 => k_asm); (case k3 => k_asm); (case k4 => k_asm); (case k5 => k_asm); (case k6 => k_is); (case k7 => k_is); (case k8 => ktr_room); (case k9 => exact BindsTo.of_eq rfl); (case c5 => decide); (case kB => exact locs rfl); (case c2 => exact rfl); (case c3 => exact rfl); (case c4 => exact rfl); k_whole; intro g' L' h' FG' F' N' B' X' T'; (try dsimp only); (try k_fold)))
  k_with "call ref" => (k_here; (with_reducible show wpAny _ _ (call (Value.ref 192) _) _ _ _); (refine wpAny_call ?_); k_dflt (refine' code_def ?k1 ?k2 ?k3 ?k4 ?k5 ?kA ?kF ?kK ?k6 ?k7 ?k8 ?k9 ?kB ?_ ?c2 ?c3 ?c4 ?c5; (case kA => exact rfl); (case kF => exact rfl); (case kK => first | exact rfl | assumption); (case k1 => k_asm); (case k2 => k_asm); (case k3 => k_asm); (case k4 => k_asm); (case k5 => k_asm); (case k6 => k_is); (case k7 => k_is); (case k8 => ktr_room); (case k9 => exact BindsTo.of_eq rfl); (case c5 => decide); (case kB => exact locs rfl); (case c2 => exact rfl); (case c3 => exact rfl); (case c4 => exact rfl); k_whole; intro g' L' h' FG' F' N' B' X' T'; (try dsimp only); (try k_fold)))
  k_with "call ref" => (k_here; (with_reducible show wpAny _ _ (call (Value.ref 79) _) _ _ _); k_dflt (refine' Con.use ?k1 ?k2 ?k3 ?k4 ?k5 ?kK (fits_c _ _ _ _ _ ?p0 ?p1 ?p2 ?p3) ?kd ?ku ?_; (case k1 => k_asm); (case k2 => k_asm); (case k3 => k_asm); (case k4 => k_asm); (case k5 => k_asm); (case kK => first | exact rfl | assumption); (case p0 => omega ); (case p1 =>  omega ); (case p2 =>  omega ); (case p3 =>  omega); (case kd => ktr_room); (case ku => ktr_units); intro r9 n9 h9 tk9 F9 N9 R9; obtain ⟨e9, e8⟩ := R9; subst e9; subst e8;(try dsimp only); (try k_fold)))
  k_with "call ref" => (k_here; (with_reducible show wpAny _ _ (call (Value.ref 185) _) _ _ _); (refine wpAny_call ?_); k_dflt (refine' code_def ?k1 ?k2 ?k3 ?k4 ?k5 ?kA ?kF ?kK ?k6 ?k7 ?k8 ?k9 ?kB ?_ ?c2 ?c3 ?c4 ?c5; (case kA => exact rfl); (case kF => exact rfl); (case kK => first | exact rfl | assumption); (case k1 => k_asm); (case k2 => k_asm); (case k3 => k_asm); (case k4 => k_asm); (case k5 => k_asm); (case k6 => k_is); (case k7 => k_is); (case k8 => ktr_room); (case k9 => exact BindsTo.of_eq rfl); (case c5 => decide); (case kB => exact locs rfl); (case c2 => exact rfl); (case c3 => exact rfl); (case c4 => exact rfl); k_whole; intro g' L' h' FG' F' N' B' X' T'; (try dsimp only); (try k_fold)))
  k_with "call ref" => (k_here; (with_reducible show wpAny _ _ (call (Value.ref 44) _) _ _ _); k_dflt (refine' Con.use ?k1 ?k2 ?k3 ?k4 ?k5 ?kK (kind_c _ _ _ ?p0) ?kd ?ku ?_; (case k1 => k_asm); (case k2 => k_asm); (case k3 => k_asm); (case k4 => k_asm); (case k5 => k_asm); (case kK => first | exact rfl | assumption); (case p0 => first | assumption | exact NumIn.mono (by assumption) (fun p hp => .tail _ hp) | exact NumIn.mono (by assumption) (fun p hp => .tail _ (.tail _ hp))); (case kd => ktr_room); (case ku => ktr_units); intro r9 n9 h9 tk9 F9 N9 R9; obtain ⟨⟨x9, t9, e9, q9⟩, e8⟩ := R9; subst e9; subst e8;(try dsimp only); (try k_fold)))
  k_with "compareOp Eq str str" => (refine eq_str_no (by assumption) ?_)
  intro w mean mg mb dp un gd cn cs a ccd cl outer A₀ base h₀ L m s Q E B F X N T hk hd hu hret
  have hR : NumIn news (.int n t) (.whole n) := .whole n t
  refine wpAny_call ?_
  k_dflt ktr_enter
  k_steps
  rw [Int.zero_sub]
  exact hret _ news _ _ (by assumption) (by assumption) ⟨⟨_, rfl⟩, rfl⟩
set_option maxRecDepth 100000 in
set_option maxHeartbeats 8000000 in
theorem opp2_c (b : Addr) (c e : Int) (t1 t2 : Tok) (k : Nat) (wx wd : Addr) (es : List DictEntry) (en : Nat) (bits digits : Int) (tb td : Tok) (news : List (Addr × Obj)) (hm : (b, ({ cls := .type "tuple", data := .seq #[.int c t1, .int e t2] k } : Obj)) ∈ news)
   (hm1 : (wx, instObj 343 wd) ∈ news) (hm2 : (wd, dictOf es en) ∈ news) (hg1 : getL (Str.ofString "bits") es = some (some (.int bits tb))) (hg2 : getL (Str.ofString "digits") es = some (some (.int digits td))) :
  Con 6 382 [.ref b, .ref wx] news (fun r news' => ∃ b' t1' t2' k', r = .ref b' ∧ (∀ p ∈ news, p.1 < b') ∧ (b', ({ cls := .type "tuple", data := .seq #[.int (-c) t1', .int e t2'] k' } : Obj)) :: news = news') := by
  unfold Con
  k_fill
  k_with_none
  k_with "getAttr ref" => (k_here; k_dflt (refine' get_own ?k1 ?k2 ?k3 ?k4 ?k5 ?k6 ?k7 ?k8 ?k9 ?_; (case k1 => k_asm); (case k2 => k_asm); (case k3 => k_inst); (case k4 => k_is); (case k5 => k_is); (case k6 => k_is); (case k7 => k_is); (case k8 => assumption); (case k9 => k_handed); k_whole))
  k_with "call ref" => (k_here; (with_reducible show wpAny _ _ (call (Value.ref 325) _) _ _ _); (refine wpAny_call ?_); k_dflt (refine' code_def ?k1 ?k2 ?k3 ?k4 ?k5 ?kA ?kF ?kK ?k6 ?k7 ?k8 ?k9 ?kB ?_ ?c2 ?c3 ?c4 ?c5; (case kA => exact rfl); (case kF => exact rfl); (case kK => first | exact rfl | assumption); (case k1 => k_asm); (case k2 => k_asm); (case k3 => k_asm); (case k4 => k_asm); (case k5 => k_asm); (case k6 => k_is); (case k7 => k_is); (case k8 => ktr_room); (case k9 => exact BindsTo.of_eq rfl); (case c5 => decide); (case kB => exact locs rfl); (case c2 => exact rfl); (case c3 => exact rfl); (case c4 => exact rfl); k_whole; intro g' L' h' FG' F' N' B' X' T'; (try dsimp only); (try k_fold)))
  k_with "call ref" => (k_here; (with_reducible show wpAny _ _ (call (Value.ref 248) _) _ _ _); (refine wpAny_call ?_); k_dflt (refine' code_def ?k1 ?k2 ?k3 ?k4 ?k5 ?kA ?kF ?kK ?k6 ?k7 ?k8 ?k9 ?kB ?_ ?c2 ?c3 ?c4 ?c5; (case kA => exact rfl); (case kF => exact rfl); (case kK => first | exact rfl | assumption); (case k1 => k_asm); (case k2 => k_asm); (case k3 => k_asm); (case k4 => k_asm); (case k5 => k_asm); (case k6 => k_is); (case k7 => k_is); (case k8 => ktr_room); (case k9 => exact BindsTo.of_eq rfl); (case c5 => decide); (case kB => exact locs rfl); (case c2 => exact rfl); (case c3 => exact rfl); (case c4 => exact rfl); k_whole; intro g' L' h' FG' F' N' B' X' T'; (try dsimp only); (try k_fold)))
  k_with "call ref" => (k_here; (with_reducible show wpAny _ _ (call (Value.ref 192) _) _ _ _); (refine wpAny_call ?_); k_dflt (refine' code_def ?k1 ?k2 ?k3 ?k4 ?k5 ?kA ?kF ?kK ?k6 ?k7 ?k8 ?k9 ?kB ?_ ?c2 ?c3 ?c4 ?c5; (case kA => exact rfl); (case kF => exact rfl); (case kK => first | exact rfl | assumption); (case k1 => k_asm); (case k2 => k_asm); (case k3 => k_asm); (case k4 => k_asm); (case k5 => k_asm); (case k6 => k_is); (case k7 => k_is); (case k8 => ktr_room); (case k9 => exact BindsTo.of_eq rfl); (case c5 => decide); (case kB => exact locs rfl); (case c2 => exact rfl); (case c3 => exact rfl); (case c4 => exact rfl); k_whole; intro g' L' h' FG' F' N' B' X' T'; (try dsimp only); (try k_fold)))
  k_with "call ref" => (k_here; (with_reducible show wpAny _ _ (call (Value.ref 79) _) _ _ _); k_dflt (refine' Con.use ?k1 ?k2 ?k3 ?k4 ?k5 ?kK (fits_c _ _ _ _ _ ?p0 ?p1 ?p2 ?p3) ?kd ?ku ?_; (case k1 => k_asm); (case k2 => k_asm); (case k3 => k_asm); (case k4 => k_asm); (case k5 => k_asm); (case kK => first | exact rfl | assumption); (case p0 => omega ); (case p1 =>  omega ); (case p2 =>  omega ); (case p3 =>  omega); (case kd => ktr_room); (case ku => ktr_units); intro r9 n9 h9 tk9 F9 N9 R9; obtain ⟨e9, e8⟩ := R9; subst e9; subst e8;(try dsimp only); (try k_fold)))
  k_with "call ref" => (k_here; (with_reducible show wpAny _ _ (call (Value.ref 185) _) _ _ _); (refine wpAny_call ?_); k_dflt (refine' code_def ?k1 ?k2 ?k3 ?k4 ?k5 ?kA ?kF ?kK ?k6 ?k7 ?k8 ?k9 ?kB ?_ ?c2 ?c3 ?c4 ?c5; (case kA => exact rfl); (case kF => exact rfl); (case kK => first | exact rfl | assumption); (case k1 => k_asm); (case k2 => k_asm); (case k3 => k_asm); (case k4 => k_asm); (case k5 => k_asm); (case k6 => k_is); (case k7 => k_is); (case k8 => ktr_room); (case k9 => exact BindsTo.of_eq rfl); (case c5 => decide); (case kB => exact locs rfl); (case c2 => exact rfl); (case c3 => exact rfl); (case c4 => exact rfl); k_whole; intro g' L' h' FG' F' N' B' X' T'; (try dsimp only); (try k_fold)))
  k_with "call ref" => (k_here; (with_reducible show wpAny _ _ (call (Value.ref 44) _) _ _ _); k_dflt (refine' Con.use ?k1 ?k2 ?k3 ?k4 ?k5 ?kK (kind_c _ _ _ ?p0) ?kd ?ku ?_; (case k1 => k_asm); (case k2 => k_asm); (case k3 => k_asm); (case k4 => k_asm); (case k5 => k_asm); (case kK => first | exact rfl | assumption); (case p0 => first | assumption | exact NumIn.mono (by assumption) (fun p hp => .tail _ hp) | exact NumIn.mono (by assumption) (fun p hp => .tail _ (.tail _ hp))); (case kd => ktr_room); (case ku => ktr_units); intro r9 n9 h9 tk9 F9 N9 R9; obtain ⟨⟨x9, t9, e9, q9⟩, e8⟩ := R9; subst e9; subst e8;(try dsimp only); (try k_fold)))
  k_with "compareOp Eq str str" => (refine eq_str_no (by assumption) ?_)
  intro w mean mg mb dp un gd cn cs a ccd cl outer A₀ base h₀ L m s Q E B F X N T hk hd hu hret
  have hR : NumIn news (.ref b) (.dec c e) := .dec b c e t1 t2 k hm
  refine wpAny_call ?_
  k_dflt ktr_enter
  k_steps
  rw [Int.zero_sub] at *
  exact hret _ _ _ _ (by assumption) (by assumption) ⟨_, _, _, _, rfl, by first | assumption | exact all_lt_at (by assumption), rfl⟩
end

section
open PySem PySem.W PyProof.Rows
local macro_rules | `(tactic| k_mem) => `(tactic| first | assumption | exact List.Mem.tail _ (by assumption) | exact List.Mem.tail _ (List.Mem.tail _ (by assumption)) | exact List.Mem.tail _ (List.Mem.tail _ (List.Mem.tail _ (by assumption))))

theorem lt_val (x y : Int) : (if decide (sgn x y < 0) = (Str.ofString "<" == Str.ofString "<") then (-1 : Int) else 0) = if x < y then -1 else 0 := by
  rw [show (Str.ofString "<" == Str.ofString "<") = true from by decide +kernel]
  simp only [decide_eq_true_eq, sgn_neg]
theorem gt_val (x y : Int) : (if decide (0 < sgn x y) = (Str.ofString ">" == Str.ofString ">") then (-1 : Int) else 0) = if y < x then -1 else 0 := by
  rw [show (Str.ofString ">" == Str.ofString ">") = true from by decide +kernel]
  simp only [decide_eq_true_eq, sgn_pos]
theorem eq_val (x y : Int) : (if (sgn x y == 0) = (Str.ofString "=" == Str.ofString "=") then (-1 : Int) else 0) = if x = y then -1 else 0 := by
  rw [show (Str.ofString "=" == Str.ofString "=") = true from by decide +kernel]
  simp only [beq_iff_eq, sgn_zero]
set_option maxRecDepth 100000 in
set_option maxHeartbeats 8000000 in
theorem two_lt_c (v1 v2 : Value) (d1 d2 : Num) (t : Tok) (vb vd : Value) (news : List (Addr × Obj)) (hR1 : NumIn news v1 d1) (hR2 : NumIn news v2 d2) (hO1 : d1.Ok) (hO2 : d2.Ok) :
  Con 5 318 [.str (Str.ofString "<") t, v1, v2, vb, vd] news (fun r news' => (∃ t', r = .int (if d1.units < d2.units then -1 else 0) t') ∧ news = news') := by
  unfold Con
  k_fill
  k_with_none
  k_with "exec Assign cons ListComp" => (k_here; k_dflt (refine comp_tup_assign (by k_asm) (by rfl) (by with_unfolding_all rfl) (by with_unfolding_all rfl) (by decide) (by rfl) (by decide) (by rfl) (by rfl) (by rfl) ?_))
  k_with "eval ListComp" => (k_here; k_dflt (refine comp_tup (by k_asm) (by with_unfolding_all rfl) (by decide) (by rfl) (by decide) (by rfl) ?_))
  k_with "TupSrc" => (k_here; k_dflt (refine TupSrc.ledger (by rfl) (by k_asm) (by k_asm) (by k_mem) (by first | size_fits | exact Nat.le_of_ble_eq_true rfl) ?_; intro g'; lcg_lit))
  k_with "CompEnd" => (k_dflt (refine end_same (by k_asm) (by k_asm) (by k_asm) ⟨_, by k_mem, rfl, _, rfl⟩ ?_))
  k_with "call ref" => (k_here; (with_reducible show wpAny _ _ (call (Value.ref 306) _) _ _ _); (refine wpAny_call ?_); k_dflt (refine' code_def ?k1 ?k2 ?k3 ?k4 ?k5 ?kA ?kF ?kK ?k6 ?k7 ?k8 ?k9 ?kB ?_ ?c2 ?c3 ?c4 ?c5; (case kA => exact rfl); (case kF => exact rfl); (case kK => first | exact rfl | assumption); (case k1 => k_asm); (case k2 => k_asm); (case k3 => k_asm); (case k4 => k_asm); (case k5 => k_asm); (case k6 => k_is); (case k7 => k_is); (case k8 => ktr_room); (case k9 => exact BindsTo.of_eq rfl); (case c5 => decide); (case kB => exact locs rfl); (case c2 => exact rfl); (case c3 => exact rfl); (case c4 => exact rfl); k_whole; intro g' L' h' FG' F' N' B' X' T'; (try dsimp only); (try k_fold)))
  k_with "call ref" => (k_here; (with_reducible show wpAny _ _ (call (Value.ref 107) _) _ _ _); (refine wpAny_call ?_); k_dflt (refine' code_def ?k1 ?k2 ?k3 ?k4 ?k5 ?kA ?kF ?kK ?k6 ?k7 ?k8 ?k9 ?kB ?_ ?c2 ?c3 ?c4 ?c5; (case kA => exact rfl); (case kF => exact rfl); (case kK => first | exact rfl | assumption); (case k1 => k_asm); (case k2 => k_asm); (case k3 => k_asm); (case k4 => k_asm); (case k5 => k_asm); (case k6 => k_is); (case k7 => k_is); (case k8 => ktr_room); (case k9 => exact BindsTo.of_eq rfl); (case c5 => decide); (case kB => exact locs rfl); (case c2 => exact rfl); (case c3 => exact rfl); (case c4 => exact rfl); k_whole; intro g' L' h' FG' F' N' B' X' T'; (try dsimp only); (try k_fold)))
  k_with "call ref" => (k_here; (with_reducible show wpAny _ _ (call (Value.ref 255) _) _ _ _); k_dflt (refine' Con.use ?k1 ?k2 ?k3 ?k4 ?k5 ?kK (order_c _ _ _ _ _ ?p0 ?p1 ?p2 ?p3) ?kd ?ku ?_; (case k1 => k_asm); (case k2 => k_asm); (case k3 => k_asm); (case k4 => k_asm); (case k5 => k_asm); (case kK => first | exact rfl | assumption); (case p0 => first | assumption | exact NumIn.mono (by assumption) (fun p hp => .tail _ hp) | exact NumIn.mono (by assumption) (fun p hp => .tail _ (.tail _ hp)) ); (case p1 =>  first | assumption | exact NumIn.mono (by assumption) (fun p hp => .tail _ hp) | exact NumIn.mono (by assumption) (fun p hp => .tail _ (.tail _ hp)) ); (case p2 =>  assumption ); (case p3 =>  assumption); (case kd => ktr_room); (case ku => ktr_units); intro r9 n9 h9 tk9 F9 N9 R9; obtain ⟨⟨t9, e9⟩, e8⟩ := R9; subst e9; subst e8;(try dsimp only); (try k_fold)))
  k_with "call ref" => (k_here; (with_reducible show wpAny _ _ (call (Value.ref 44) _) _ _ _); k_dflt (refine' Con.use ?k1 ?k2 ?k3 ?k4 ?k5 ?kK (kind_c _ _ _ ?p0) ?kd ?ku ?_; (case k1 => k_asm); (case k2 => k_asm); (case k3 => k_asm); (case k4 => k_asm); (case k5 => k_asm); (case kK => first | exact rfl | assumption); (case p0 => first | assumption | exact NumIn.mono (by assumption) (fun p hp => .tail _ hp) | exact NumIn.mono (by assumption) (fun p hp => .tail _ (.tail _ hp)) | exact NumIn.mono (by assumption) (fun p hp => .tail _ (.tail _ (.tail _ (.tail _ hp))))); (case kd => ktr_room); (case ku => ktr_units); intro r9 n9 h9 tk9 F9 N9 R9; obtain ⟨⟨x9, t9, e9, q9⟩, e8⟩ := R9; subst e9; subst e8;(try dsimp only); (try k_fold)))
  k_with "compareOp In str ref" => (k_here; k_dflt (refine' in_top_tup (b := true) ?k1 ?k2 ?k3 ?k4 ?k5 ?_; (case k1 => k_asm); (case k2 => k_asm); (case k3 => k_is); (case k4 => kde_strs); (case k5 => decide +kernel); k_whole))
  k_with "compareOp Eq str str" => (refine eq_str_no (by assumption) ?_)
  intro w mean mg mb dp un gd cn cs a ccd cl outer A₀ base h₀ L m s Q E B F X N T hk hd hu hret
  refine wpAny_call ?_
  k_dflt ktr_enter
  k_steps
  rw [lt_val]
  exact hret _ news _ _ (by assumption) (news_sub (by assumption) fun p hp => .tail _ (.tail _ hp)) ⟨⟨_, rfl⟩, rfl⟩
set_option maxRecDepth 100000 in
set_option maxHeartbeats 8000000 in
theorem two_eq_c (v1 v2 : Value) (d1 d2 : Num) (t : Tok) (vb vd : Value) (news : List (Addr × Obj)) (hR1 : NumIn news v1 d1) (hR2 : NumIn news v2 d2) (hO1 : d1.Ok) (hO2 : d2.Ok) :
  Con 5 318 [.str (Str.ofString "=") t, v1, v2, vb, vd] news (fun r news' => (∃ t', r = .int (if d1.units = d2.units then -1 else 0) t') ∧ news = news') := by
  unfold Con
  k_fill
  k_with_none
  k_with "exec Assign cons ListComp" => (k_here; k_dflt (refine comp_tup_assign (by k_asm) (by rfl) (by with_unfolding_all rfl) (by with_unfolding_all rfl) (by decide) (by rfl) (by decide) (by rfl) (by rfl) (by rfl) ?_))
  k_with "eval ListComp" => (k_here; k_dflt (refine comp_tup (by k_asm) (by with_unfolding_all rfl) (by decide) (by rfl) (by decide) (by rfl) ?_))
  k_with "TupSrc" => (k_here; k_dflt (refine TupSrc.ledger (by rfl) (by k_asm) (by k_asm) (by k_mem) (by first | size_fits | exact Nat.le_of_ble_eq_true rfl) ?_; intro g'; lcg_lit))
  k_with "CompEnd" => (k_dflt (refine end_same (by k_asm) (by k_asm) (by k_asm) ⟨_, by k_mem, rfl, _, rfl⟩ ?_))
  k_with "call ref" => (k_here; (with_reducible show wpAny _ _ (call (Value.ref 306) _) _ _ _); (refine wpAny_call ?_); k_dflt (refine' code_def ?k1 ?k2 ?k3 ?k4 ?k5 ?kA ?kF ?kK ?k6 ?k7 ?k8 ?k9 ?kB ?_ ?c2 ?c3 ?c4 ?c5; (case kA => exact rfl); (case kF => exact rfl); (case kK => first | exact rfl | assumption); (case k1 => k_asm); (case k2 => k_asm); (case k3 => k_asm); (case k4 => k_asm); (case k5 => k_asm); (case k6 => k_is); (case k7 => k_is); (case k8 => ktr_room); (case k9 => exact BindsTo.of_eq rfl); (case c5 => decide); (case kB => exact locs rfl); (case c2 => exact rfl); (case c3 => exact rfl); (case c4 => exact rfl); k_whole; intro g' L' h' FG' F' N' B' X' T'; (try dsimp only); (try k_fold)))
  k_with "call ref" => (k_here; (with_reducible show wpAny _ _ (call (Value.ref 107) _) _ _ _); (refine wpAny_call ?_); k_dflt (refine' code_def ?k1 ?k2 ?k3 ?k4 ?k5 ?kA ?kF ?kK ?k6 ?k7 ?k8 ?k9 ?kB ?_ ?c2 ?c3 ?c4 ?c5; (case kA => exact rfl); (case kF => exact rfl); (case kK => first | exact rfl | assumption); (case k1 => k_asm); (case k2 => k_asm); (case k3 => k_asm); (case k4 => k_asm); (case k5 => k_asm); (case k6 => k_is); (case k7 => k_is); (case k8 => ktr_room); (case k9 => exact BindsTo.of_eq rfl); (case c5 => decide); (case kB => exact locs rfl); (case c2 => exact rfl); (case c3 => exact rfl); (case c4 => exact rfl); k_whole; intro g' L' h' FG' F' N' B' X' T'; (try dsimp only); (try k_fold)))
  k_with "call ref" => (k_here; (with_reducible show wpAny _ _ (call (Value.ref 255) _) _ _ _); k_dflt (refine' Con.use ?k1 ?k2 ?k3 ?k4 ?k5 ?kK (order_c _ _ _ _ _ ?p0 ?p1 ?p2 ?p3) ?kd ?ku ?_; (case k1 => k_asm); (case k2 => k_asm); (case k3 => k_asm); (case k4 => k_asm); (case k5 => k_asm); (case kK => first | exact rfl | assumption); (case p0 => first | assumption | exact NumIn.mono (by assumption) (fun p hp => .tail _ hp) | exact NumIn.mono (by assumption) (fun p hp => .tail _ (.tail _ hp)) ); (case p1 =>  first | assumption | exact NumIn.mono (by assumption) (fun p hp => .tail _ hp) | exact NumIn.mono (by assumption) (fun p hp => .tail _ (.tail _ hp)) ); (case p2 =>  assumption ); (case p3 =>  assumption); (case kd => ktr_room); (case ku => ktr_units); intro r9 n9 h9 tk9 F9 N9 R9; obtain ⟨⟨t9, e9⟩, e8⟩ := R9; subst e9; subst e8;(try dsimp only); (try k_fold)))
  k_with "call ref" => (k_here; (with_reducible show wpAny _ _ (call (Value.ref 44) _) _ _ _); k_dflt (refine' Con.use ?k1 ?k2 ?k3 ?k4 ?k5 ?kK (kind_c _ _ _ ?p0) ?kd ?ku ?_; (case k1 => k_asm); (case k2 => k_asm); (case k3 => k_asm); (case k4 => k_asm); (case k5 => k_asm); (case kK => first | exact rfl | assumption); (case p0 => first | assumption | exact NumIn.mono (by assumption) (fun p hp => .tail _ hp) | exact NumIn.mono (by assumption) (fun p hp => .tail _ (.tail _ hp)) | exact NumIn.mono (by assumption) (fun p hp => .tail _ (.tail _ (.tail _ (.tail _ hp))))); (case kd => ktr_room); (case ku => ktr_units); intro r9 n9 h9 tk9 F9 N9 R9; obtain ⟨⟨x9, t9, e9, q9⟩, e8⟩ := R9; subst e9; subst e8;(try dsimp only); (try k_fold)))
  k_with "compareOp In str ref" => (k_here; k_dflt (refine' in_top_tup (b := true) ?k1 ?k2 ?k3 ?k4 ?k5 ?_; (case k1 => k_asm); (case k2 => k_asm); (case k3 => k_is); (case k4 => kde_strs); (case k5 => decide +kernel); k_whole))
  k_with "compareOp Eq str str" => (refine eq_str_no (by assumption) ?_)
  intro w mean mg mb dp un gd cn cs a ccd cl outer A₀ base h₀ L m s Q E B F X N T hk hd hu hret
  refine wpAny_call ?_
  k_dflt ktr_enter
  k_steps
  rw [eq_val]
  exact hret _ news _ _ (by assumption) (news_sub (by assumption) fun p hp => .tail _ (.tail _ hp)) ⟨⟨_, rfl⟩, rfl⟩
set_option maxRecDepth 100000 in
set_option maxHeartbeats 8000000 in
theorem two_gt_c (v1 v2 : Value) (d1 d2 : Num) (t : Tok) (vb vd : Value) (news : List (Addr × Obj)) (hR1 : NumIn news v1 d1) (hR2 : NumIn news v2 d2) (hO1 : d1.Ok) (hO2 : d2.Ok) :
  Con 5 318 [.str (Str.ofString ">") t, v1, v2, vb, vd] news (fun r news' => (∃ t', r = .int (if d2.units < d1.units then -1 else 0) t') ∧ news = news') := by
  unfold Con
  k_fill
  k_with_none
  k_with "exec Assign cons ListComp" => (k_here; k_dflt (refine comp_tup_assign (by k_asm) (by rfl) (by with_unfolding_all rfl) (by with_unfolding_all rfl) (by decide) (by rfl) (by decide) (by rfl) (by rfl) (by rfl) ?_))
  k_with "eval ListComp" => (k_here; k_dflt (refine comp_tup (by k_asm) (by with_unfolding_all rfl) (by decide) (by rfl) (by decide) (by rfl) ?_))
  k_with "TupSrc" => (k_here; k_dflt (refine TupSrc.ledger (by rfl) (by k_asm) (by k_asm) (by k_mem) (by first | size_fits | exact Nat.le_of_ble_eq_true rfl) ?_; intro g'; lcg_lit))
  k_with "CompEnd" => (k_dflt (refine end_same (by k_asm) (by k_asm) (by k_asm) ⟨_, by k_mem, rfl, _, rfl⟩ ?_))
  k_with "call ref" => (k_here; (with_reducible show wpAny _ _ (call (Value.ref 306) _) _ _ _); (refine wpAny_call ?_); k_dflt (refine' code_def ?k1 ?k2 ?k3 ?k4 ?k5 ?kA ?kF ?kK ?k6 ?k7 ?k8 ?k9 ?kB ?_ ?c2 ?c3 ?c4 ?c5; (case kA => exact rfl); (case kF => exact rfl); (case kK => first | exact rfl | assumption); (case k1 => k_asm); (case k2 => k_asm); (case k3 => k_asm); (case k4 => k_asm); (case k5 => k_asm); (case k6 => k_is); (case k7 => k_is); (case k8 => ktr_room); (case k9 => exact BindsTo.of_eq rfl); (case c5 => decide); (case kB => exact locs rfl); (case c2 => exact rfl); (case c3 => exact rfl); (case c4 => exact rfl); k_whole; intro g' L' h' FG' F' N' B' X' T'; (try dsimp only); (try k_fold)))
  k_with "call ref" => (k_here; (with_reducible show wpAny _ _ (call (Value.ref 107) _) _ _ _); (refine wpAny_call ?_); k_dflt (refine' code_def ?k1 ?k2 ?k3 ?k4 ?k5 ?kA ?kF ?kK ?k6 ?k7 ?k8 ?k9 ?kB ?_ ?c2 ?c3 ?c4 ?c5; (case kA => exact rfl); (case kF => exact rfl); (case kK => first | exact rfl | assumption); (case k1 => k_asm); (case k2 => k_asm); (case k3 => k_asm); (case k4 => k_asm); (case k5 => k_asm); (case k6 => k_is); (case k7 => k_is); (case k8 => ktr_room); (case k9 => exact BindsTo.of_eq rfl); (case c5 => decide); (case kB => exact locs rfl); (case c2 => exact rfl); (case c3 => exact rfl); (case c4 => exact rfl); k_whole; intro g' L' h' FG' F' N' B' X' T'; (try dsimp only); (try k_fold)))
  k_with "call ref" => (k_here; (with_reducible show wpAny _ _ (call (Value.ref 255) _) _ _ _); k_dflt (refine' Con.use ?k1 ?k2 ?k3 ?k4 ?k5 ?kK (order_c _ _ _ _ _ ?p0 ?p1 ?p2 ?p3) ?kd ?ku ?_; (case k1 => k_asm); (case k2 => k_asm); (case k3 => k_asm); (case k4 => k_asm); (case k5 => k_asm); (case kK => first | exact rfl | assumption); (case p0 => first | assumption | exact NumIn.mono (by assumption) (fun p hp => .tail _ hp) | exact NumIn.mono (by assumption) (fun p hp => .tail _ (.tail _ hp)) ); (case p1 =>  first | assumption | exact NumIn.mono (by assumption) (fun p hp => .tail _ hp) | exact NumIn.mono (by assumption) (fun p hp => .tail _ (.tail _ hp)) ); (case p2 =>  assumption ); (case p3 =>  assumption); (case kd => ktr_room); (case ku => ktr_units); intro r9 n9 h9 tk9 F9 N9 R9; obtain ⟨⟨t9, e9⟩, e8⟩ := R9; subst e9; subst e8;(try dsimp only); (try k_fold)))
  k_with "call ref" => (k_here; (with_reducible show wpAny _ _ (call (Value.ref 44) _) _ _ _); k_dflt (refine' Con.use ?k1 ?k2 ?k3 ?k4 ?k5 ?kK (kind_c _ _ _ ?p0) ?kd ?ku ?_; (case k1 => k_asm); (case k2 => k_asm); (case k3 => k_asm); (case k4 => k_asm); (case k5 => k_asm); (case kK => first | exact rfl | assumption); (case p0 => first | assumption | exact NumIn.mono (by assumption) (fun p hp => .tail _ hp) | exact NumIn.mono (by assumption) (fun p hp => .tail _ (.tail _ hp)) | exact NumIn.mono (by assumption) (fun p hp => .tail _ (.tail _ (.tail _ (.tail _ hp))))); (case kd => ktr_room); (case ku => ktr_units); intro r9 n9 h9 tk9 F9 N9 R9; obtain ⟨⟨x9, t9, e9, q9⟩, e8⟩ := R9; subst e9; subst e8;(try dsimp only); (try k_fold)))
  k_with "compareOp In str ref" => (k_here; k_dflt (refine' in_top_tup (b := true) ?k1 ?k2 ?k3 ?k4 ?k5 ?_; (case k1 => k_asm); (case k2 => k_asm); (case k3 => k_is); (case k4 => kde_strs); (case k5 => decide +kernel); k_whole))
  k_with "compareOp Eq str str" => (refine eq_str_no (by assumption) ?_)
  intro w mean mg mb dp un gd cn cs a ccd cl outer A₀ base h₀ L m s Q E B F X N T hk hd hu hret
  refine wpAny_call ?_
  k_dflt ktr_enter
  k_steps
  rw [gt_val]
  exact hret _ news _ _ (by assumption) (news_sub (by assumption) fun p hp => .tail _ (.tail _ hp)) ⟨⟨_, rfl⟩, rfl⟩
end

section
open PySem PySem.W PySem.Calls PyProof.Rows PySem.Spec PyProof.V
theorem upd_mem {d : Addr} {o o' : Obj} {l l' : List (Addr × Obj)} (h : Upd d o o' l l') : (d, o) ∈ l ∧ (∀ p ∈ l', p ∈ (d, o') :: l.filter (fun p => decide (p.1 ≠ d))) := by
  obtain ⟨pre, post, rfl, rfl, h1, h2⟩ := h.split
  refine ⟨by simp, fun p hp => ?_⟩
  rcases List.mem_append.mp hp with hp | hp
  · exact .tail _ (List.mem_filter.mpr ⟨List.mem_append_left _ hp, decide_eq_true (h1 p hp)⟩)
  · rcases List.mem_cons.mp hp with rfl | hp
    · exact .head _
    · exact .tail _ (List.mem_filter.mpr ⟨List.mem_append_right _ (.tail _ hp), decide_eq_true (h2 p hp)⟩)
theorem off_filter (d : Addr) (l : List (Addr × Obj)) : OwnOff (l.filter fun p => decide (p.1 ≠ d)) [d] := fun p hp b hb e => by
  rw [List.mem_singleton.mp hb] at e
  exact (of_decide_eq_true (List.mem_filter.mp hp).2) e
theorem next_u (d l : Addr) (k : Int) (t t' : Tok) (c c' : Nat) (mm : Int) (vs : List Value) (ns : List Int) (news : List (Addr × Obj)) (up : Tok → List (Addr × Obj)) (hv : IntsAre vs ns) (h0 : 0 ≤ k) (h1 : k < 10^6) (h2 : 1 ≤ mm) (h3 : mm ≤ 30000) (hlen : ns.length < 64)
   (hU : ∀ u, Upd d (W.listOf #[.int k t, .ref l] c) (W.listOf #[.int (k + 1) u, .ref l] c) news (up u)) (hld : l ≠ d) (hm : (l, W.listOf vs.toArray c') ∈ news) :
   Con 1 354 [.ref d, .int mm t'] news (fun r news' => ∃ n t' u, r = .int n t' ∧ 0 ≤ n ∧ n < mm ∧ up u = news') := by
  have hd := (upd_mem (hU 0)).1
  have C := next_c d l k t t' c c' mm vs ns (news.filter fun p => decide (p.1 ≠ d)) hv h0 h1 h2 h3 hlen (off_filter d news) (List.mem_filter.mpr ⟨hm, decide_eq_true hld⟩)
  intro w mean mg mb dp un gd cn cs a ccd cl outer A₀ base h₀ L m s Q E B F X N T hk hdp hu hret
  refine C w mean mg mb dp un gd cn cs a ccd cl outer A₀ base h₀ L m s Q E B F X (news_sub N (sub_cons hd fun p hp => (List.mem_filter.mp hp).1)) T hk hdp hu fun r n' h' tk' F' N' R => ?_
  obtain ⟨n, t1, u, e, a1, a2, rfl⟩ := R
  exact hret r (up u) h' tk' F' (news_sub N' (upd_mem (hU u)).2) ⟨n, t1, u, e, a1, a2, rfl⟩
section
variable {prog : Program} {w : World} {A : Around} {E : Value → Shared → Prop} {s : Shared} {env : Env} {h₀ : Heap} {x : Str} {body : List Stmt} {Q : Flow → Shared → Prop}
/-- the end of a turn of the loop over a range: the iterator as it stands, the word one further on -/
def RangeEnd (h₀ : Heap) (L : Addr) (J : (Str → Option Value) → List (Addr × Obj) → Prop) (I : Addr) (o : Obj) (s₁ : Shared) (Q : Flow → Shared → Prop) (f : Flow) (s₂ : Shared) : Prop :=
  match f with
  | .ret v => Q (.ret v) s₂
  | .brk => Q .next s₂
  | _ => ∃ h' tk m' news', s₂ = { s₁ with heap := h', toks := tk } ∧ Fr h₀ L h' m' ∧ News h₀ L h' ((I, o) :: news') ∧ (∀ p ∈ news', p.1 ≠ I) ∧ J m' news'
theorem range_inv {r : Addr} {a₀ b₀ : Int} {t₀ u₀ v₀ : Tok} {n : Nat} {m₀ : Str → Option Value} {news : List (Addr × Obj)} (J : Nat → (Str → Option Value) → List (Addr × Obj) → Prop)
    (hh : A.handled = none) (hr : IsRange s.heap r a₀ b₀ 1 t₀ u₀ v₀) (hsmall : Builtin.Range.small a₀ b₀ 1 = true) (hn : Builtin.Range.rangeSize a₀ b₀ 1 = (n : Int)) (F : Fr h₀ env.locals s.heap m₀) (N : News h₀ env.locals s.heap news) (hj : J 0 m₀ news)
    (turn : ∀ I, (∀ p ∈ news, p.1 < I) → ∀ (i : Nat) t m₁ news₁ h tk o, i < n → J i m₁ news₁ → (∀ p ∈ news₁, p.1 ≠ I) → Fr h₀ env.locals h (fun y => if y = x then some (.int (a₀ + i) t) else m₁ y) → News h₀ env.locals h ((I, o) :: news₁) →
      wpAny (model prog w) A (execs body env) (RangeEnd h₀ env.locals (J (i + 1)) I o { s with heap := h, toks := tk } Q) E { s with heap := h, toks := tk })
    (done : ∀ m₁ news₁ h tk, J n m₁ news₁ → Fr h₀ env.locals h m₁ → News h₀ env.locals h news₁ → Q .next { s with heap := h, toks := tk }) :
    wpAny (model prog w) A (pyIter (.ref r)) (fun it s₂ => LoopAtV prog w A h₀ env x body Q E it s₂) E s := by
  refine wpAny_pyIter_range hr hsmall ?_
  have W : Walks prog w A s.heap.objs.size [s.heap.objs.size] [s.heap.objs.size] n (fun i v => i < n ∧ ∃ t, v = .int (a₀ + i * 1) t)
      (fun i h => IsRangeIter h s.heap.objs.size (a₀ + (i : Nat) * 1) ((n : Int) - (i : Nat)) 1) := (Walks.range hh _ a₀ 1 n).bound
  refine ⟨_, _, _, n, _, _, m₀, news, J, rfl, W, ?_, ?_, ?_, (by show IsRangeIter _ _ _ _ _; rw [hn]; simpa using Heap.get?_push_size _ rfl), F.push _, (fun p hp => ⟨Heap.get?_push_of_some _ (N p hp).1, (N p hp).2⟩), hj, ?_, ?_⟩
  · intro hm
    exact absurd F.ns.lt ((List.mem_singleton.mp hm) ▸ Nat.lt_irrefl _)
  · intro b hb
    rw [List.mem_singleton.mp hb]
    exact next_is_new F
  · intro p hp hI
    exact absurd (Heap.lt_size (N p hp).1) ((List.mem_singleton.mp hI) ▸ Nat.lt_irrefl _)
  · rintro i v m₁ news₁ s₁ own ⟨hh', tk', rfl⟩ hin ⟨_, t, rfl⟩ hJ hoff hown hown2 hall hst' F₁ N₁
    have ho : ∃ o, hh'.get? s.heap.objs.size = some o := ⟨_, hst'⟩
    obtain ⟨o, ho⟩ := ho
    have hio : (s.heap.objs.size, o) ∈ own := hall _ (List.mem_singleton.mpr rfl) (next_is_new F) o ho
    have hone : ∀ p ∈ own, p = (s.heap.objs.size, o) := own_one (fp := [s.heap.objs.size]) hown (fun b hb => .inl (List.mem_singleton.mp hb)) ho N₁
    have ei : a₀ + (i : Int) * 1 = a₀ + i := by rw [Int.mul_one]
    rw [ei] at F₁
    refine wpAny_mono (turn s.heap.objs.size (fun p hp => Heap.lt_size (N p hp).1) i t m₁ news₁ hh' tk' o hin hJ (fun p hp q => hoff p hp (List.mem_singleton.mpr q)) F₁ (news_one hio N₁)) (fun f s₂ p => ?_) fun _ _ e => e
    have fin : (∃ h' tk m' news', s₂ = { ({ s with heap := hh', toks := tk' } : Shared) with heap := h', toks := tk } ∧ Fr h₀ env.locals h' m' ∧ News h₀ env.locals h' ((s.heap.objs.size, o) :: news') ∧ (∀ p ∈ news', p.1 ≠ s.heap.objs.size) ∧ J (i + 1) m' news') →
        LoopStepU h₀ env.locals [s.heap.objs.size] own (J (i + 1)) { s with heap := hh', toks := tk' } .next s₂ := by
      rintro ⟨h', tk, m', news', e, F', N', hn', hJ'⟩
      refine ⟨rfl, h', tk, m', news', e, F', fun p hp => ?_, fun p hp q => hn' p hp (List.mem_singleton.mp q), hJ'⟩
      rcases List.mem_append.mp hp with hp | hp
      · rw [hone p hp]; exact N' _ (.head _)
      · exact N' _ (.tail _ hp)
    cases f with
    | ret v => exact p
    | brk => exact p
    | next => exact fin p
    | cont => exact fin p
  · rintro h' tk m' news' F' N' _ hJ
    exact done m' news' h' tk hJ F' N'
end
/-- between two turns of the first loop: the list holds i numbers, the drum has gone on by two a turn, the rest stands -/
def J1 (m₀ : Str → Option Value) (fa fb : List (Addr × Obj)) (nl dr ls : Addr) (i : Nat) (m : Str → Option Value) (news : List (Addr × Obj)) : Prop :=
  ∃ vs ds cn u T, (∀ y, y ≠ Str.ofString "turn" → m y = m₀ y) ∧ news = (nl, W.listOf (List.toArray vs) cn) :: (fa ++ (dr, W.listOf #[.int (3 + 2 * i) u, .ref ls] 0) :: (fb ++ T)) ∧ NumsIn T vs ds ∧ vs.length = i ∧ (∀ p ∈ T, nl < p.1)
theorem J1.start {m₀ : Str → Option Value} {fa fb : List (Addr × Obj)} {nl dr ls : Addr} {u : Tok} : J1 m₀ fa fb nl dr ls 0 m₀ ((nl, W.listOf #[] 0) :: (fa ++ (dr, W.listOf #[.int (0 + 1 + 1 + 1) u, .ref ls] 0) :: fb)) :=
  ⟨[], [], 0, u, [], fun _ _ => rfl, by rw [List.append_nil]; rfl, .nil, rfl, fun _ h => (nomatch h)⟩
theorem J1.map {m₀ m : Str → Option Value} {v : Value} (h : ∀ y, y ≠ Str.ofString "turn" → m y = m₀ y) : (fun y => if y = Str.ofString "turn" then some v else m y) = fun y => if y = Str.ofString "turn" then some v else m₀ y := by
  funext y
  by_cases e : y = Str.ofString "turn"
  · simp [e]
  · simp [e, h y e]
theorem lt_off {T : List (Addr × Obj)} {lo a : Addr} (h : ∀ p ∈ T, lo < p.1) (ha : a ≤ lo) : ∀ p ∈ T, p.1 ≠ a := fun p hp e => absurd (h p hp) (by rw [e]; exact Nat.not_lt.mpr ha)
theorem perm1 (a0 a1 a2 a3 a4 a5 c6 c5 c4 c3 c2 c1 : Addr × Obj) (ext T : List (Addr × Obj)) : ∀ p ∈ a0 :: a1 :: a2 :: a3 :: a4 :: a5 :: c6 :: c5 :: c4 :: c3 :: c2 :: c1 :: (ext ++ T), p ∈ a4 :: (ext ++ a0 :: a1 :: a2 :: a3 :: a5 :: c6 :: c5 :: c4 :: c3 :: c2 :: c1 :: T) := by
  intro p hp
  simp only [List.mem_cons, List.mem_append] at hp ⊢
  grind
theorem off_of {T : List (Addr × Obj)} {lo : Addr} (h : ∀ p ∈ T, lo < p.1) (as : List Addr) (ha : ∀ a ∈ as, a ≤ lo) : OwnOff T as := fun p hp b hb e => absurd (h p hp) (by rw [e]; exact Nat.not_lt.mpr (ha b hb))
end

section
open PySem PySem.W PySem.Calls PyProof.Rows PySem.Spec PyProof.V
theorem slice_tail (v : Value) (vs : List Value) : slicePick (List.toArray (v :: vs)) (some 1) none none = List.toArray vs := by
  rw [kmk_pick_nat (a := 1) (b := vs.length + 1) _ (by simp [sliceBounds]; try omega)]
  simp
section
variable {prog : Program} {w : World} {A : Around} {E : Value → Shared → Prop} {h₀ : Heap} {env : Env} {target : PySem.Expr} {body : List Stmt} {Q : Flow → Shared → Prop} {s : Shared}
theorem post_mono {L : Addr} {s₁ : Shared} {its : List (Addr × Obj)} {R R' : (Str → Option Value) → List (Addr × Obj) → Prop} (hr : ∀ m n, R m n → R' m n) {f : Flow} {s₂ : Shared} (h : UnrPostW h₀ L s₁ its R Q f s₂) : UnrPostW h₀ L s₁ its R' Q f s₂ := by
  have k : UnrEndW h₀ L s₁ its R s₂ → UnrEndW h₀ L s₁ its R' s₂ := fun ⟨h', tk, m', n', e, F, N, o, r⟩ => ⟨h', tk, m', n', e, F, N, o, hr _ _ r⟩
  cases f with
  | ret v => exact h
  | brk => exact h
  | next => exact k h
  | cont => exact k h
theorem allobj_mono : ∀ {ws : List (Addr × String)} {k k' : List (Addr × Obj) → Prop}, (∀ its, k its → k' its) → AllObj ws k → AllObj ws k'
  | [], _, _, hk, h => hk _ h
  | _ :: _, _, _, hk, h => fun o ho => allobj_mono (fun its => hk _) (h o ho)
/-- the loop over zip(whole, whole[1:]): what stands after i turns, from turn to turn -/
theorem zip_rest {ws : List (Addr × String)} {keep : List (Addr × Obj)} (whole : List Value) (J : Nat → (Str → Option Value) → List (Addr × Obj) → Prop)
    (turn : ∀ (i : Nat) (x y : Value) (m : Str → Option Value) (news : List (Addr × Obj)), whole[i]? = some x → whole[i + 1]? = some y → J i m news → ∀ T h tk, IsTup h T #[x, y] → Fr h₀ env.locals h m →
      AllObj ws (fun its => News h₀ env.locals h (its ++ news) → wpAny (model prog w) A (assign target env (.ref T)) (fun _ s₂ => wpAny (model prog w) A (execs body env)
        (UnrPostW h₀ env.locals { s with heap := h, toks := tk } its (fun m' n' => SubL keep n' ∧ J (i + 1) m' n') Q) E s₂) E { s with heap := h, toks := tk }))
    (done : ∀ m news h tk, J (whole.length - 1) m news → Fr h₀ env.locals h m → News h₀ env.locals h news → Q .next { s with heap := h, toks := tk }) :
    ∀ (r : List Value) (i : Nat) (x : Value) (m : Str → Option Value) (news : List (Addr × Obj)), whole.drop i = x :: r → J i m news → ItemsRest prog w A E h₀ env target body Q s ws keep (zipItems (x :: r) r) m news := by
  intro r
  induction r with
  | nil =>
    intro i x m news hd hJ
    have hl : whole.length - 1 = i := by
      have := congrArg List.length hd
      simp at this
      omega
    refine ItemsRest.zero fun h tk F N => done m news h tk (by rw [hl]; exact hJ) F N
  | cons y r ih =>
    intro i x m news hd hJ
    have e1 : whole[i]? = some x := by
      have := congrArg (fun l => l[0]?) hd
      simpa using this
    have e2 : whole[i + 1]? = some y := by
      have := congrArg (fun l => l[1]?) hd
      simpa using this
    have hd2 : whole.drop (i + 1) = y :: r := by
      have := congrArg (List.drop 1) hd
      simpa [Nat.add_comm] using this
    show ItemsRest _ _ _ _ _ _ _ _ _ _ _ _ (.pair (fun _ => x) y :: zipItems (y :: r) r) m news
    refine ItemsRest.pair fun T t h tk hT F => ?_
    refine allobj_mono (fun its k N => ?_) (turn i x y m news e1 e2 hJ T h tk hT F)
    refine wpAny_mono (k N) (fun _ s₂ p => ?_) fun _ _ e => e
    exact wpAny_mono p (fun f s₃ q => post_mono (fun m' n' hh => ⟨hh.1, ih (i + 1) y m' n' hd2 hh.2⟩) q) fun _ _ e => e
end
/-- where the first of the least stands among the first i + 1 -/
def lowAt (us : List Int) : Nat → Nat
  | 0 => 0
  | i + 1 => if us.getD (i + 1) 0 < us.getD (lowAt us i) 0 then i + 1 else lowAt us i
def highAt (us : List Int) : Nat → Nat
  | 0 => 0
  | i + 1 => if us.getD (highAt us i) 0 < us.getD (i + 1) 0 then i + 1 else highAt us i
theorem lowAt_le (us : List Int) : ∀ i, lowAt us i ≤ i
  | 0 => Nat.le_refl 0
  | i + 1 => by
    have := lowAt_le us i
    unfold lowAt
    split <;> omega
theorem highAt_le (us : List Int) : ∀ i, highAt us i ≤ i
  | 0 => Nat.le_refl 0
  | i + 1 => by
    have := highAt_le us i
    unfold highAt
    split <;> omega
theorem lowAt_is (us : List Int) : ∀ i, (∀ j, j ≤ i → us.getD (lowAt us i) 0 ≤ us.getD j 0) ∧ ∀ j, j < lowAt us i → us.getD (lowAt us i) 0 < us.getD j 0
  | 0 => ⟨fun j hj => by rw [Nat.le_zero.mp hj]; exact Int.le_refl _, fun _ h => absurd h (Nat.not_lt_zero _)⟩
  | i + 1 => by
    obtain ⟨h1, h2⟩ := lowAt_is us i
    have h3 := lowAt_le us i
    unfold lowAt
    split
    · rename_i hc
      refine ⟨fun j hj => ?_, fun j hj => ?_⟩
      · rcases Nat.lt_or_ge j (i + 1) with h | h
        · have := h1 j (by omega)
          omega
        · rw [show j = i + 1 by omega]
          exact Int.le_refl _
      · have := h1 j (by omega)
        omega
    · rename_i hc
      refine ⟨fun j hj => ?_, h2⟩
      rcases Nat.lt_or_ge j (i + 1) with h | h
      · exact h1 j (by omega)
      · rw [show j = i + 1 by omega]
        omega
theorem highAt_is (us : List Int) : ∀ i, (∀ j, j ≤ i → us.getD j 0 ≤ us.getD (highAt us i) 0) ∧ ∀ j, j < highAt us i → us.getD j 0 < us.getD (highAt us i) 0
  | 0 => ⟨fun j hj => by rw [Nat.le_zero.mp hj]; exact Int.le_refl _, fun _ h => absurd h (Nat.not_lt_zero _)⟩
  | i + 1 => by
    obtain ⟨h1, h2⟩ := highAt_is us i
    have h3 := highAt_le us i
    unfold highAt
    split
    · rename_i hc
      refine ⟨fun j hj => ?_, fun j hj => ?_⟩
      · rcases Nat.lt_or_ge j (i + 1) with h | h
        · have := h1 j (by omega)
          omega
        · rw [show j = i + 1 by omega]
          exact Int.le_refl _
      · have := h1 j (by omega)
        omega
    · rename_i hc
      refine ⟨fun j hj => ?_, h2⟩
      rcases Nat.lt_or_ge j (i + 1) with h | h
      · exact h1 j (by omega)
      · rw [show j = i + 1 by omega]
        omega
/-- between two turns of the second loop: least and most are the first least and the first most of what has been seen; what else has changed is of no weight -/
def J2 (m₀ : Str → Option Value) (fa : List (Addr × Obj)) (a6 a5 a4 a3 a2 : Addr) (cw : Addr × Obj) (lo I : Addr) (vs : List Value) (ds : List Num) (i : Nat) (m : Str → Option Value) (news : List (Addr × Obj)) : Prop :=
  ∃ mS mO mT o6 o5 o4 o3 o2 x6 x5 x4 T, m = (fun y => if y = Str.ofString "said" then mS else if y = Str.ofString "opposites" then mO else if y = Str.ofString "turned" then mT else m₀ y) ∧
    news = fa ++ (a6, o6) :: (a5, o5) :: (a4, o4) :: (a3, o3) :: (a2, o2) :: cw :: T ∧ o6.data = .cell x6 ∧ o5.data = .cell x5 ∧ o4.data = .cell x4 ∧
    o3.data = .cell (some (vs.getD (highAt (ds.map Num.units) i) .none)) ∧ o2.data = .cell (some (vs.getD (lowAt (ds.map Num.units) i) .none)) ∧ NumsIn T vs ds ∧ (∀ p ∈ T, lo < p.1) ∧ ∀ p ∈ T, p.1 < I ∨ I + 4 < p.1
theorem J2.start {m₀ : Str → Option Value} {fa T : List (Addr × Obj)} {a6 a5 a4 a3 a2 : Addr} {o6 o5 o4 o3 o2 : Obj} {cw : Addr × Obj} {lo I : Addr} {v : Value} {vs : List Value} {ds : List Num} {x6 x5 x4 : Option Value} (h6 : o6.data = .cell x6) (h5 : o5.data = .cell x5) (h4 : o4.data = .cell x4)
    (h3 : o3.data = .cell (some v)) (h2 : o2.data = .cell (some v)) (hn : NumsIn T (v :: vs) ds) (hT : ∀ p ∈ T, lo < p.1) (hG : ∀ p ∈ T, p.1 < I) : J2 m₀ fa a6 a5 a4 a3 a2 cw lo I (v :: vs) ds 0 m₀ (fa ++ (a6, o6) :: (a5, o5) :: (a4, o4) :: (a3, o3) :: (a2, o2) :: cw :: T) := by
  refine ⟨m₀ (Str.ofString "said"), m₀ (Str.ofString "opposites"), m₀ (Str.ofString "turned"), o6, o5, o4, o3, o2, x6, x5, x4, T, ?_, rfl, h6, h5, h4, h3, h2, hn, hT, fun p hp => .inl (hG p hp)⟩
  funext y
  split
  · rename_i e; rw [e]
  split
  · rename_i e; rw [e]
  split
  · rename_i e; rw [e]
  rfl
theorem J2.start7 {m₀ : Str → Option Value} {f1 f2 f3 f4 f5 f6 f7 : Addr × Obj} {T : List (Addr × Obj)} {a6 a5 a4 a3 a2 : Addr} {o6 o5 o4 o3 o2 : Obj} {cw : Addr × Obj} {lo I : Addr} {v : Value} {vs : List Value} {ds : List Num} {x6 x5 x4 : Option Value} (h6 : o6.data = .cell x6) (h5 : o5.data = .cell x5) (h4 : o4.data = .cell x4)
    (h3 : o3.data = .cell (some v)) (h2 : o2.data = .cell (some v)) (hn : NumsIn T (v :: vs) ds) (hT : ∀ p ∈ T, lo < p.1) (hG : ∀ p ∈ T, p.1 < I) : J2 m₀ [f1, f2, f3, f4, f5, f6, f7] a6 a5 a4 a3 a2 cw lo I (v :: vs) ds 0 m₀ (f1 :: f2 :: f3 :: f4 :: f5 :: f6 :: f7 :: (a6, o6) :: (a5, o5) :: (a4, o4) :: (a3, o3) :: (a2, o2) :: cw :: T) :=
  J2.start (fa := [f1, f2, f3, f4, f5, f6, f7]) h6 h5 h4 h3 h2 hn hT hG
theorem at_of {news : List (Addr × Obj)} {vs : List Value} {ds : List Num} (h : NumsIn news vs ds) {j : Nat} (hj : j < vs.length) : ∃ d, ds[j]? = some d ∧ NumIn news (vs.getD j .none) d ∧ d.Ok ∧ (ds.map Num.units).getD j 0 = d.units := by
  obtain ⟨d, h1, h2, h3⟩ := h.get j _ (List.getElem?_eq_getElem hj)
  refine ⟨d, h1, ?_, h3, ?_⟩
  · rw [List.getD_eq_getElem?_getD, List.getElem?_eq_getElem hj]
    exact h2
  · simp [List.getD_eq_getElem?_getD, h1]
end

section
open PySem PySem.W PyProof.Rows
local macro_rules | `(tactic| k_mem) => `(tactic| first | assumption | exact List.Mem.tail _ (by assumption) | exact List.Mem.tail _ (List.Mem.tail _ (by assumption)) | exact List.Mem.tail _ (List.Mem.tail _ (List.Mem.tail _ (by assumption))))
set_option maxRecDepth 100000 in
set_option maxHeartbeats 8000000 in
theorem world_c (w : World) (mean : ExcName → Option Value) (mg mb : Str → Option Value) (cn : Str) (cs : Scope) (a : Addr) (ccd : Value) (cl : List (Str × Addr)) (A₀ : Around) (base h₀ : Heap) (L : Addr) (m : Str → Option Value) (s : Shared)
    (Q E : Value → Shared → Prop) (news : List (Addr × Obj)) (bits digits : Int) (tb td : Tok) :
    Below A₀ base [] h₀ → Fr h₀ L s.heap m → (Mine.hd.heap_1 w.params).In h₀ → News h₀ L s.heap news → Top Mine.vw (looseW Mine.vw [Str.ofString "BasicError"]) mean mg mb h₀ → cs.kind = .function →
    (∀ h' tk' wx wd es en, Fr h₀ L h' m → News h₀ L h' ((wx, instObj 343 wd) :: (wd, dictOf es en) :: news) → wd < wx → (∀ p ∈ news, p.1 < wd) → getL (Str.ofString "bits") es = some (some (.int bits tb)) → getL (Str.ofString "digits") es = some (some (.int digits td)) → Q (.ref wx) { s with heap := h', toks := tk' }) →
    wpAny (model PySem.Challenge.rw_pf0009_01.row.prog w) (callerA.deeper (envX cn cs L a ccd cl)) (call (.ref 343) [.int bits tb, .int digits td]) Q E s := by
  k_fill
  k_with_none
  intro B F X N T hk hret
  k_dflt (refine' call_cls ?k1 ?k2 ?k3 ?k4 ?k5 ?k6 ?_; (case k1 => k_asm); (case k2 => k_asm); (case k3 => k_asm); (case k4 => k_is); (case k5 => k_is); (case k6 => k_is))
  intro wx wd h' F' N' l1 l2
  k_lt2 l2
  have hoff : OwnOff news [wd] := fun p hp b hb e => by
    rw [List.mem_singleton.mp hb] at e
    exact absurd (l1 p hp) (by rw [e]; exact Nat.lt_irrefl _)
  k_dflt (refine' code_def ?k1 ?k2 ?k3 ?k4 ?k5 ?kA ?kF ?kK ?k6 ?k7 ?k8 ?k9 ?kB ?_ ?c2 ?c3 ?c4 ?c5; (case kA => exact rfl); (case kF => exact rfl); (case kK => assumption); (case k1 => k_asm); (case k2 => k_asm); (case k3 => k_asm); (case k4 => k_asm); (case k5 => k_asm); (case k6 => k_is); (case k7 => k_is); (case k8 => k_room); (case k9 => exact binds_K (by k_in) rfl (by k_is) rfl rfl rfl); (case c5 => decide); (case kB => exact locs rfl); (case c2 => exact rfl); (case c3 => exact rfl); (case c4 => exact rfl))
  intro g' L' h'' FG' F'' N'' B' X' T'
  clear F N F' N' 
  (try dsimp only)
  k_fold
  k_steps
  refine' hret _ _ wx wd _ _ ?F ?N ?l ?l' ?g1 ?g2
  (case F => assumption)
  (case N => refine' news_sub ?nn ?s; (case nn => assumption); refine' sub_cons ?x1 (sub_cons ?x2 ?x3); (case x1 => exact (by repeat (first | exact .head _ | refine .tail _ ?_))); (case x2 => (iterate 13 (refine' List.Mem.tail _ ?_)); exact List.Mem.head _); (case x3 => exact (fun p hp => by repeat (first | exact hp | refine .tail _ ?_))))
  (case l => exact l2)
  (case l' => exact l1)
  (case g1 => k_get)
  (case g2 => k_get)
end

section
open PySem PySem.W PySem.Calls PyProof.Rows
section
variable {M : Model} {A : Around} {E : Value → Shared → Prop} {s : Shared} {env : Env} {h₀ : Heap} {L : Addr} {m : Str → Option Value} {news : List (Addr × Obj)}
/-- a statement that leaves the ledger as it was -/
theorem exec_cut {st : Stmt} {rest : List Stmt} {Q : Flow → Shared → Prop} (F : Fr h₀ L s.heap m) (N : News h₀ L s.heap news)
    (here : wpAny M A (exec st env) (fun fl s' => fl = .next ∧ ∃ h' tk, s' = { s with heap := h', toks := tk } ∧ Fr h₀ L h' m ∧ News h₀ L h' news) E s)
    (next : ∀ h' tk, Fr h₀ L h' m → News h₀ L h' news → wpAny M A (execs rest env) Q E { s with heap := h', toks := tk }) : wpAny M A (execs (st :: rest) env) Q E s := by
  refine wpAny_execs_cons (wpAny_mono here (fun fl s' hh => ?_) fun _ _ e => e)
  obtain ⟨rfl, h', tk, rfl, F', N'⟩ := hh
  exact next h' tk F' N'
/-- one ledger's front is carried behind the known entries -/
inductive Shift (ext : List (Addr × Obj)) : List (Addr × Obj) → List (Addr × Obj) → Prop
  | base (T : List (Addr × Obj)) : Shift ext T (ext ++ T)
  | cons (k : Addr × Obj) {l l' : List (Addr × Obj)} : Shift ext l l' → Shift ext (k :: l) (k :: l')
theorem Shift.sub {ext l l' : List (Addr × Obj)} (h : Shift ext l l') : ∀ p ∈ l', p ∈ ext ++ l := by
  induction h with
  | base T => exact fun _ h => h
  | cons k _ ih =>
    intro p hp
    rcases List.mem_cons.mp hp with rfl | hp
    · exact List.mem_append_right _ (.head _)
    · rcases List.mem_append.mp (ih p hp) with h | h
      · exact List.mem_append_left _ h
      · exact List.mem_append_right _ (.tail _ h)
theorem shift_k {ext l l' : List (Addr × Obj)} {h : Heap} {G : Prop} (N : News h₀ L h (ext ++ l)) (sh : Shift ext l l') (k : News h₀ L h l' → G) : G := k (news_sub N sh.sub)
theorem gt_grow_k {lo : Addr} {o : Obj} {T ext news : List (Addr × Obj)} {G : Prop} (hT : ∀ p ∈ T, lo < p.1) (lt : ∀ p ∈ ext, ∀ q ∈ news, q.1 < p.1) (hm : (lo, o) ∈ news) (k : (∀ p ∈ ext ++ T, lo < p.1) → G) : G :=
  k fun p hp => (List.mem_append.mp hp).elim (fun h => lt p h _ hm) (hT p)
theorem gap_grow_k {I : Addr} {o : Obj} {T ext news : List (Addr × Obj)} {G : Prop} (hT : ∀ p ∈ T, p.1 < I ∨ I + 4 < p.1) (lt : ∀ p ∈ ext, ∀ q ∈ news, q.1 < p.1) (hm : (I + 4, o) ∈ news) (k : (∀ p ∈ ext ++ T, p.1 < I ∨ I + 4 < p.1) → G) : G :=
  k fun p hp => (List.mem_append.mp hp).elim (fun h => .inr (lt p h _ hm)) (hT p)
theorem gap_cons {I a : Addr} {o : Obj} {r : List (Addr × Obj)} (h : a < I) (hr : ∀ p ∈ r, p.1 < I ∨ I + 4 < p.1) : ∀ p ∈ (a, o) :: r, p.1 < I ∨ I + 4 < p.1 := fun p hp => by
  rcases List.mem_cons.mp hp with rfl | hp
  · exact .inl h
  · exact hr p hp
theorem gap_five {I : Addr} {z1 z2 z3 z4 z5 : Obj} {r : List (Addr × Obj)} (h : ∀ p ∈ r, p.1 < I ∨ I + 4 < p.1) : ∀ p ∈ r, ∀ q ∈ [(I + 4, z1), (I + 2, z2), (I + 3, z3), (I, z4), (I + 1, z5)], p.1 ≠ q.1 := fun p hp q hq => by
  have h1 : @LE.le Nat _ I q.1 ∧ @LE.le Nat _ q.1 (I + 4) := by
    simp only [List.mem_cons, List.not_mem_nil, or_false] at hq
    rcases hq with rfl | rfl | rfl | rfl | rfl <;> exact ⟨by omega, by omega⟩
  rcases h p hp with h2 | h2
  · exact Nat.ne_of_lt (Nat.lt_of_lt_of_le h2 h1.1)
  · exact Nat.ne_of_gt (Nat.lt_of_le_of_lt h1.2 h2)
end
end

section
open PySem PySem.W PySem.Calls PyProof.Rows
def Num.neg : Num → Num
  | .whole n => .whole (-n)
  | .dec c e => .dec (-c) e
theorem neg_units (d : Num) : d.neg.units = -d.units := by
  cases d with
  | whole n => show 1000 * -n = -(1000 * n); omega
  | dec c e => show -c * _ = -(c * _); rw [Int.neg_mul]
theorem neg_neg' (d : Num) : d.neg.neg = d := by
  cases d with
  | whole n => show Num.whole (- -n) = _; rw [Int.neg_neg]
  | dec c e => show Num.dec (- -c) e = _; rw [Int.neg_neg]
theorem neg_ok {d : Num} (h : d.Ok) : d.neg.Ok := by
  cases d with
  | whole n =>
    obtain ⟨h1, h2⟩ := h
    show -30000 ≤ -n ∧ -n ≤ 30000
    omega
  | dec c e => exact DecOk.neg h
theorem NumIn.ite {news : List (Addr × Obj)} {v v' : Value} {d d' : Num} {c : Prop} [Decidable c] (h : NumIn news v d) (h' : NumIn news v' d') : NumIn news (if c then v else v') (if c then d else d') := by
  split
  · exact h
  · exact h'
theorem ok_ite {d d' : Num} {c : Prop} [Decidable c] (h : d.Ok) (h' : d'.Ok) : (if c then d else d').Ok := by
  split
  · exact h
  · exact h'
/-- the opposite of the least of the opposites is the most, also among alike ones -/
theorem neg_pick (dx dy : Num) : (if dy.neg.units < dx.neg.units then dy.neg else dx.neg).neg = (if dx.units < dy.units then dy else dx) := by
  rw [neg_units, neg_units]
  by_cases h : dx.units < dy.units
  · rw [if_pos h, if_pos (by omega), neg_neg']
  · rw [if_neg h, if_neg (by omega), neg_neg']
theorem Con.mono {k : Nat} {f : Addr} {vs : List Value} {news : List (Addr × Obj)} {R R' : Value → List (Addr × Obj) → Prop} (h : Con k f vs news R) (hr : ∀ r n, R r n → R' r n) : Con k f vs news R' := by
  intro w mean mg mb dp un gd cn cs a ccd cl outer A₀ base h₀ L m s Q E B F X N T hk hd hu hret
  exact h w mean mg mb dp un gd cn cs a ccd cl outer A₀ base h₀ L m s Q E B F X N T hk hd hu fun r n h' tk F' N' R => hret r n h' tk F' N' (hr r n R)
theorem opp_c (v : Value) (d : Num) (wx wd : Addr) (es : List DictEntry) (en : Nat) (bits digits : Int) (tb td : Tok) (news : List (Addr × Obj)) (hR : NumIn news v d) (hO : d.Ok) (hb : 16 ≤ bits) (hb' : bits ≤ 31)
   (hm1 : (wx, instObj 343 wd) ∈ news) (hm2 : (wd, dictOf es en) ∈ news) (hg1 : getL (Str.ofString "bits") es = some (some (.int bits tb))) (hg2 : getL (Str.ofString "digits") es = some (some (.int digits td))) :
  Con 6 382 [v, .ref wx] news (fun r news' => ∃ ext, NumIn ext r d.neg ∧ (∀ p ∈ ext, ∀ q ∈ news, q.1 < p.1) ∧ ext ++ news = news') := by
  cases hR with
  | whole n t =>
    obtain ⟨h1, h2⟩ := hO
    refine (opp1_c n t wx wd es en bits digits tb td news h1 h2 hb hb' hm1 hm2 hg1 hg2).mono fun r nw hh => ?_
    obtain ⟨⟨t', rfl⟩, rfl⟩ := hh
    exact ⟨[], .whole _ _, (fun _ h => (nomatch h)), rfl⟩
  | dec b c e t1 t2 k hm =>
    refine (opp2_c b c e t1 t2 k wx wd es en bits digits tb td news hm hm1 hm2 hg1 hg2).mono fun r nw hh => ?_
    obtain ⟨b', t1', t2', k', rfl, hl, rfl⟩ := hh
    exact ⟨[_], .dec _ _ _ _ _ _ (.head _), fun p hp q hq => by rw [List.mem_singleton.mp hp]; exact hl q hq, rfl⟩
theorem pick_in {T : List (Addr × Obj)} {v v' : Value} {d d' : Num} (h : NumIn T v d) (h' : NumIn T v' d') : NumIn T (if d.units < d'.units then v else v') (if d.units < d'.units then d else d') := NumIn.ite h h'
theorem pick_ok {d d' : Num} (h : d.Ok) (h' : d'.Ok) : (if d.units < d'.units then d else d').Ok := ok_ite h h'
/-- as the greatest is picked -/
theorem pick_max {T : List (Addr × Obj)} {v v' : Value} {d d' : Num} (h : NumIn T v d) (h' : NumIn T v' d') : NumIn T (if d.units < d'.units then v' else v) (if d.units < d'.units then d' else d) := NumIn.ite h' h
theorem pick_maxok {d d' : Num} (h : d.Ok) (h' : d'.Ok) : (if d.units < d'.units then d' else d).Ok := ok_ite h' h
theorem ne_str_same {prog : Program} {w : World} {A : Around} {E : Value → Shared → Prop} {s : Shared} {x : Str} {t u : Tok} {Q : Value → Shared → Prop} (h : Q (.bool false) s) : wpAny (model prog w) A (compareOp .NotEq (.str x t) (.str x u)) Q E s :=
  PySem.P.ne_str (by rw [show (x.cps.toList != x.cps.toList) = false from by simp]; exact h)
end

section
open PySem PySem.W PySem.Calls PyProof.Rows
theorem some_lt {α : Type} {l : List α} {i : Nat} {y : α} (h : l[i]? = some y) : i < l.length := by
  rcases Nat.lt_or_ge i l.length with h' | h'
  · exact h'
  · rw [List.getElem?_eq_none h'] at h; cases h
theorem some_getD {α : Type} {l : List α} {i : Nat} {y z : α} (h : l[i]? = some y) : l.getD i z = y := by
  rw [List.getD_eq_getElem?_getD, h]; rfl
theorem low_at {T : List (Addr × Obj)} {vs : List Value} {ds : List Num} {i : Nat} {y : Value} (hn : NumsIn T vs ds) (hy : vs[i + 1]? = some y) :
    ∃ d, NumIn T (vs.getD (lowAt (ds.map Num.units) i) .none) d ∧ d.Ok ∧ (ds.map Num.units).getD (lowAt (ds.map Num.units) i) 0 = d.units := by
  have h1 := some_lt hy
  have h2 := lowAt_le (ds.map Num.units) i
  obtain ⟨d, _, h3, h4, h5⟩ := at_of hn (j := lowAt (ds.map Num.units) i) (by omega)
  exact ⟨d, h3, h4, h5⟩
theorem high_at {T : List (Addr × Obj)} {vs : List Value} {ds : List Num} {i : Nat} {y : Value} (hn : NumsIn T vs ds) (hy : vs[i + 1]? = some y) :
    ∃ d, NumIn T (vs.getD (highAt (ds.map Num.units) i) .none) d ∧ d.Ok ∧ (ds.map Num.units).getD (highAt (ds.map Num.units) i) 0 = d.units := by
  have h1 := some_lt hy
  have h2 := highAt_le (ds.map Num.units) i
  obtain ⟨d, _, h3, h4, h5⟩ := at_of hn (j := highAt (ds.map Num.units) i) (by omega)
  exact ⟨d, h3, h4, h5⟩
theorem units_at {ds : List Num} {i : Nat} {d : Num} (h : ds[i]? = some d) : (ds.map Num.units).getD i 0 = d.units := by
  rw [List.getD_eq_getElem?_getD, List.getElem?_map, h]; rfl
theorem low_next {vs : List Value} {ds : List Num} {i : Nat} {y : Value} {dy dl : Num} (hy : vs[i + 1]? = some y) (gy : ds[i + 1]? = some dy) (hl : (ds.map Num.units).getD (lowAt (ds.map Num.units) i) 0 = dl.units) :
    (if dy.units < dl.units then y else vs.getD (lowAt (ds.map Num.units) i) .none) = vs.getD (lowAt (ds.map Num.units) (i + 1)) .none := by
  rw [lowAt, hl, units_at gy]
  split
  · rw [some_getD hy]
  · rfl
theorem high_next {vs : List Value} {ds : List Num} {i : Nat} {y : Value} {dy dl : Num} (hy : vs[i + 1]? = some y) (gy : ds[i + 1]? = some dy) (hl : (ds.map Num.units).getD (highAt (ds.map Num.units) i) 0 = dl.units) :
    (if dl.units < dy.units then y else vs.getD (highAt (ds.map Num.units) i) .none) = vs.getD (highAt (ds.map Num.units) (i + 1)) .none := by
  rw [highAt, hl, units_at gy]
  split
  · rw [some_getD hy]
  · rfl
theorem m_three {m₀ : Str → Option Value} {a b c a' b' c' : Option Value} : (fun y => if y = Str.ofString "turned" then c else if y = Str.ofString "opposites" then b else if y = Str.ofString "said" then a else (fun y => if y = Str.ofString "said" then a' else if y = Str.ofString "opposites" then b' else if y = Str.ofString "turned" then c' else m₀ y) y)
    = fun y => if y = Str.ofString "said" then a else if y = Str.ofString "opposites" then b else if y = Str.ofString "turned" then c else m₀ y := by
  have n1 : Str.ofString "turned" ≠ Str.ofString "said" := by decide +kernel
  have n2 : Str.ofString "turned" ≠ Str.ofString "opposites" := by decide +kernel
  have n3 : Str.ofString "opposites" ≠ Str.ofString "said" := by decide +kernel
  funext y
  by_cases h1 : y = Str.ofString "turned"
  · subst h1; simp [n1, n2]
  by_cases h2 : y = Str.ofString "opposites"
  · subst h2; simp [n3, h1]
  by_cases h3 : y = Str.ofString "said"
  · subst h3; simp [h1, h2]
  simp [h1, h2, h3]
theorem turn_end {h₀ : Heap} {L : Addr} {s₁ : Shared} {its big keep : List (Addr × Obj)} {h' : Heap} {tk : Nat} {m₀ : Str → Option Value} {a b c a' b' c' : Option Value} {fa T : List (Addr × Obj)} {a6 a5 a4 a3 a2 lo I : Addr} {o6 o5 o4 o3 o2 : Obj} {cw : Addr × Obj} {vs : List Value} {ds : List Num} {i : Nat} {x6 x5 x4 : Option Value} {v3 v2 : Value}
    (F : Fr h₀ L h' (fun y => if y = Str.ofString "turned" then c else if y = Str.ofString "opposites" then b else if y = Str.ofString "said" then a else (fun y => if y = Str.ofString "said" then a' else if y = Str.ofString "opposites" then b' else if y = Str.ofString "turned" then c' else m₀ y) y))
    (N : News h₀ L h' big) (hb : ∀ p ∈ its ++ (fa ++ (a6, o6) :: (a5, o5) :: (a4, o4) :: (a3, o3) :: (a2, o2) :: cw :: T), p ∈ big)
    (h6 : o6.data = .cell x6) (h5 : o5.data = .cell x5) (h4 : o4.data = .cell x4) (h3 : o3.data = .cell (some v3)) (h2 : o2.data = .cell (some v2))
    (e3 : v3 = vs.getD (highAt (ds.map Num.units) (i + 1)) .none) (e2 : v2 = vs.getD (lowAt (ds.map Num.units) (i + 1)) .none)
    (hn : NumsIn T vs ds) (hT : ∀ p ∈ T, lo < p.1) (hG : ∀ p ∈ T, p.1 < I ∨ I + 4 < p.1)
    (off : ∀ p ∈ fa ++ (a6, o6) :: (a5, o5) :: (a4, o4) :: (a3, o3) :: (a2, o2) :: cw :: T, ∀ q ∈ its, p.1 ≠ q.1) (sub : SubL keep (fa ++ (a6, o6) :: (a5, o5) :: (a4, o4) :: (a3, o3) :: (a2, o2) :: cw :: T)) :
    UnrEndW h₀ L s₁ its (fun m' n' => SubL keep n' ∧ J2 m₀ fa a6 a5 a4 a3 a2 cw lo I vs ds (i + 1) m' n') { s₁ with heap := h', toks := tk } := by
  subst e3 e2
  exact ⟨h', tk, _, _, rfl, F, news_sub N hb, off, sub, a, b, c, o6, o5, o4, o3, o2, x6, x5, x4, T, m_three, rfl, h6, h5, h4, h3, h2, hn, hT, hG⟩
end

section
open PySem PySem.W PySem.Calls PyProof.Rows PySem.Spec
section
variable {prog : Program} {w : World} {A : Around} {E : Value → Shared → Prop} {s : Shared} {h₀ : Heap} {L : Addr} {m : Str → Option Value} {env : Env}
theorem ints_upto {ds : List Num} {ys : List Value} {i : Nat} {d : Num} {t : Tok} (h : IntsAre ys ((ds.take i).map Num.units)) (hd : ds[i]? = some d) : IntsAre (ys ++ [.int d.units t]) ((ds.take (i + 1)).map Num.units) := by
  rw [List.take_add_one, hd, List.map_append]
  exact IntsAre.append h (.cons _ _ .nil)
def UnitEnd (h₀ : Heap) (L : Addr) (m : Str → Option Value) (s : Shared) (news : List (Addr × Obj)) (n : Int) (y : Value) (s₂ : Shared) : Prop :=
  ∃ h' tk' t, s₂ = { s with heap := h', toks := tk' } ∧ Fr h₀ L h' m ∧ News h₀ L h' news ∧ y = .int n t
/-- a list of numbers, gone through turn by turn: their units -/
theorem comp_units {elt : Expr} {x : Str} {scope : Scope} {cl : List (Str × Addr)} {T news : List (Addr × Obj)} {vs : List Value} {ds : List Num} {S : List (Addr × Obj) → Prop} {P : Nat → Value → Prop} {Fin : List Value → List (Addr × Obj) → Prop}
    (hn : NumsIn T vs ds) (hP : ∀ i v, P i v → vs[i]? = some v)
    (turn : ∀ (v : Value) (d : Num) (I : Addr) (oI : Obj) (C : Addr) (oC : Obj) (D : Addr) (oD : Obj) (m₂ : Str → Option Value) (h : Heap) (tk : Nat) (E' : Value → Shared → Prop), NumIn T v d → d.Ok → LCg.NsObj oC m₂ → m₂ x = some v → Fr h₀ L h m → News h₀ L h ((I, oI) :: (C, oC) :: (D, oD) :: news) →
      wpAny (model prog w) A (eval elt (compEnvC scope cl C env)) (UnitEnd h₀ L m s ((I, oI) :: (C, oC) :: (D, oD) :: news) d.units) E' { s with heap := h, toks := tk })
    (hS : S news) (fin : ∀ ys, IntsAre ys (ds.map Num.units) → Fin ys news) :
    ∀ k i ys, i + k = vs.length → IntsAre ys ((ds.take i).map Num.units) → LCg.CompRest prog w A h₀ L m env elt x scope cl s S P Fin k i ys news := by
  intro k
  induction k with
  | zero =>
    intro i ys hi hy
    refine LCg.CompRest.zero (fin ys ?_)
    rw [List.take_of_length_le (by have := hn.length; omega)] at hy
    exact hy
  | succ k ih =>
    intro i ys hi hy
    refine LCg.CompRest.succ fun v I oI C oC D m₂ h tk E' hv hC hx F N off ne => ?_
    obtain ⟨d, hd, h1, h2⟩ := hn.get i v (hP i v hv)
    refine wpAny_mono (turn v d I oI C oC D _ m₂ h tk E' h1 h2 hC hx F N) (fun y s₂ hh => ?_) fun _ _ e => e
    obtain ⟨h', tk', t, rfl, F', N', rfl⟩ := hh
    exact ⟨h', tk', news, rfl, F', N', off, hS, ih (i + 1) _ (by omega) (ints_upto hy hd)⟩
theorem kf_ints_of : ∀ {ys : List Value} {ns : List Int}, IntsAre ys ns → kf_ints ys = true
  | _, _, .nil => rfl
  | _, _, .cons _ _ h => by have := kf_ints_of h; exact this
theorem kf_at_of {k : Int} : ∀ {ys : List Value} {ns : List Int} {j : Nat}, IntsAre ys ns → ns[j]? = some k → (∀ i, i < j → ns.getD i 0 ≠ k) → kf_at k ys = some j
  | _, _, _, .nil, h, _ => by simp at h
  | _, _, 0, .cons n t h, hj, _ => by
    simp at hj
    subst hj
    simp [kf_at, isInt]
  | _, _, j + 1, .cons n t h, hj, hf => by
    have h0 := hf 0 (Nat.zero_lt_succ _)
    simp at h0
    have ih := kf_at_of (k := k) (j := j) h (by simpa using hj) (fun i hi => by simpa using hf (i + 1) (by omega))
    have e : (n == k) = false := by simpa using h0
    simp [kf_at, isInt, e, ih]
theorem index_ints {D : Addr} {c j : Nat} {k : Int} {t : Tok} {ys : List Value} {ns : List Int} {news : List (Addr × Obj)} {Q : Value → Shared → Prop} (N : News h₀ L s.heap news) (hm : (D, ({ cls := .type "list", data := .seq ys.toArray c } : Obj)) ∈ news)
    (hI : IntsAre ys ns) (hj : ns[j]? = some k ∧ ∀ i, i < j → ns.getD i 0 ≠ k) (hz : ns.length ≤ 64) (h : Q (.int (j : Int) s.toks) { s with toks := s.toks + 1 }) : wpAny (model prog w) A (call (.builtin "list.index") [.ref D, .int k t]) Q E s :=
  kf_index (its := ys.toArray) (n := c) N hm (kf_ints_of hI) (kf_at_of hI hj.1 hj.2) rfl (by have := IntsAre.length hI; rw [sizeLine_eq]; show ys.length ≤ _; omega) h
theorem low_first {us : List Int} {M : Int} (hm : M ∈ us) (hle : ∀ a, a ∈ us → M ≤ a) : us[lowAt us (us.length - 1)]? = some M ∧ ∀ i, i < lowAt us (us.length - 1) → us.getD i 0 ≠ M := by
  obtain ⟨h1, h2⟩ := lowAt_is us (us.length - 1)
  have h3 := lowAt_le us (us.length - 1)
  obtain ⟨j, hj, e⟩ := List.mem_iff_getElem.mp hm
  have hl : lowAt us (us.length - 1) < us.length := by omega
  have h4 := h1 j (by omega)
  have e1 : us.getD j 0 = M := by rw [List.getD_eq_getElem?_getD, List.getElem?_eq_getElem hj, e]; rfl
  have e2 : us.getD (lowAt us (us.length - 1)) 0 = us[lowAt us (us.length - 1)] := by rw [List.getD_eq_getElem?_getD, List.getElem?_eq_getElem hl]; rfl
  have h5 := hle _ (List.getElem_mem hl)
  have e3 : us[lowAt us (us.length - 1)] = M := by omega
  refine ⟨by rw [List.getElem?_eq_getElem hl, e3], fun i hi => ?_⟩
  have := h2 i hi
  omega
theorem high_first {us : List Int} {M : Int} (hm : M ∈ us) (hle : ∀ a, a ∈ us → a ≤ M) : us[highAt us (us.length - 1)]? = some M ∧ ∀ i, i < highAt us (us.length - 1) → us.getD i 0 ≠ M := by
  obtain ⟨h1, h2⟩ := highAt_is us (us.length - 1)
  have h3 := highAt_le us (us.length - 1)
  obtain ⟨j, hj, e⟩ := List.mem_iff_getElem.mp hm
  have hl : highAt us (us.length - 1) < us.length := by omega
  have h4 := h1 j (by omega)
  have e1 : us.getD j 0 = M := by rw [List.getD_eq_getElem?_getD, List.getElem?_eq_getElem hj, e]; rfl
  have e2 : us.getD (highAt us (us.length - 1)) 0 = us[highAt us (us.length - 1)] := by rw [List.getD_eq_getElem?_getD, List.getElem?_eq_getElem hl]; rfl
  have h5 := hle _ (List.getElem_mem hl)
  have e3 : us[highAt us (us.length - 1)] = M := by omega
  refine ⟨by rw [List.getElem?_eq_getElem hl, e3], fun i hi => ?_⟩
  have := h2 i hi
  omega
theorem item_at {value slice : PySem.Expr} {l : Addr} {k j : Nat} {u : Tok} {vs : List Value} {news : List (Addr × Obj)} {Q : Value → Shared → Prop} (N : News h₀ L s.heap news) (ha : (l, ({ cls := .type "list", data := .seq vs.toArray k } : Obj)) ∈ news)
    (hj : j < vs.length) (hz : vs.length ≤ 64) (h : Q (vs.getD j .none) s)
    (hs : subscripted slice false (.ref l) (.int (j : Int) u) = operate [.ref l, .int (j : Int) u] (getItem (.ref l) (.int (j : Int) u)) := by with_unfolding_all rfl) :
    wpAny (model prog w) A (subscriptTail value slice (.ref l) (.int (j : Int) u)) Q E s := by
  have hl : s.heap.IsList l vs.toArray := ⟨_, (N _ ha).1, rfl, _, rfl⟩
  refine tail_any hl.typeIs slot_list_getitem.lookup (wpAny_getItem_list hl (by omega) (by omega) ?_ h) hs
  rw [List.getElem?_toArray, show (j : Int).toNat = j by omega, List.getD_eq_getElem?_getD, List.getElem?_eq_getElem hj]
  rfl
theorem isl {l : Addr} {c : Nat} {vs : List Value} {h : Heap} {news : List (Addr × Obj)} (N : News h₀ L h news) (hm : (l, ({ cls := .type "list", data := .seq vs.toArray c } : Obj)) ∈ news) : h.IsList l vs.toArray := ⟨_, (N _ hm).1, rfl, _, rfl⟩
theorem units_len {T : List (Addr × Obj)} {vs : List Value} {ds : List Num} (hn : NumsIn T vs ds) : (ds.map Num.units).length = vs.length := by rw [List.length_map, hn.length]
theorem lt_of_units {T : List (Addr × Obj)} {vs : List Value} {ds : List Num} (hn : NumsIn T vs ds) (h0 : 0 < vs.length) : 0 < (ds.map Num.units).length := by rw [units_len hn]; exact h0
theorem le_of_units {T : List (Addr × Obj)} {vs : List Value} {ds : List Num} (hn : NumsIn T vs ds) (h0 : vs.length ≤ 64) : (ds.map Num.units).length ≤ 64 := by rw [units_len hn]; exact h0
theorem low_end {T : List (Addr × Obj)} {vs : List Value} {ds : List Num} (hn : NumsIn T vs ds) (h0 : 0 < vs.length) : lowAt (ds.map Num.units) ((ds.map Num.units).length - 1) < vs.length ∧
    ∃ d, NumIn T (vs.getD (lowAt (ds.map Num.units) ((ds.map Num.units).length - 1)) .none) d ∧ d.Ok := by
  have h2 := lowAt_le (ds.map Num.units) ((ds.map Num.units).length - 1)
  have h3 := units_len hn
  have h4 : lowAt (ds.map Num.units) ((ds.map Num.units).length - 1) < vs.length := by omega
  obtain ⟨d, _, h5, h6, _⟩ := at_of hn h4
  exact ⟨h4, d, h5, h6⟩
theorem high_end {T : List (Addr × Obj)} {vs : List Value} {ds : List Num} (hn : NumsIn T vs ds) (h0 : 0 < vs.length) : highAt (ds.map Num.units) ((ds.map Num.units).length - 1) < vs.length ∧
    ∃ d, NumIn T (vs.getD (highAt (ds.map Num.units) ((ds.map Num.units).length - 1)) .none) d ∧ d.Ok := by
  have h2 := highAt_le (ds.map Num.units) ((ds.map Num.units).length - 1)
  have h3 := units_len hn
  have h4 : highAt (ds.map Num.units) ((ds.map Num.units).length - 1) < vs.length := by omega
  obtain ⟨d, _, h5, h6, _⟩ := at_of hn h4
  exact ⟨h4, d, h5, h6⟩
end
end

section
open PySem PySem.W PySem.Calls PyProof.Rows PySem.Spec
section
variable {M : Model} {A : Around} {E : Value → Shared → Prop} {s : Shared} {env : Env}
/-- a class of the text's own, under BaseException -/
def ExcAt (h : Heap) (C : Addr) : Prop := ∃ nm qn N bs bm hdct sn sub ab col dd k0 k1 k2 k3 k5 newId,
    h.get? C = some (excClassObj nm qn C N bs bm hdct sn sub ab col dd k0 k1 k2 k3 k5 newId) ∧ bm.contains (.type "BaseException") = true
def RaisableC (C : Addr) (E : Value → Shared → Prop) (v : Value) (s₁ : Shared) : Prop :=
  ∃ e dd t, v = .ref e ∧ ExcAt s₁.heap C ∧ s₁.heap.get? e = some { cls := .ref C, dict := some dd, data := .fields #[.ref t, .none, .none, .none, .bool false, .none] } ∧ E (.ref e) s₁
theorem Raise_own {C : Addr} {x : Expr} {pos : Pos} {Q : Flow → Shared → Prop} (hh : A.handled = none)
    (h : wpAny M A (eval x env) (RaisableC C E) E s) : wpAny M A (exec (.Raise (some x) none pos) env) Q E s := by
  show wpAny M A (do standAt pos; raiseStmt env (some (do let v ← eval x env; standAt pos; pure v)) none) Q E s
  refine wpAny_bind (wpAny_standAt ?_)
  unfold raiseStmt
  dsimp only
  refine wpAny_bind (wpAny_bind (wpAny_mono h (fun v s₁ h₁ => wpAny_bind (wpAny_standAt (wpAny_pure ?_))) fun _ _ x => x))
  obtain ⟨e, dd, t, rfl, ⟨nm, qn, N, bs, bm, hdct, sn, sub, ab, col, dd', k0, k1, k2, k3, k5, newId, hC, hb⟩, he, hE⟩ := h₁
  have hcB : (Value.ref C :: bm).contains (.type "BaseException") = true := by rw [List.contains_cons, hb, Bool.or_true]
  obtain ⟨hp, g, d, tk, os⟩ := s₁
  repeat (first | with_reducible refine wpAny_loadPart_at he ?_ | with_reducible refine wpAny_loadPart_at hC ?_ | (with_reducible refine wpAny_isSubtype_exc hC ?_; rw [hcB]) | wp_step)
  exact wpAny_raiseNew_none hh hE
/-- what has been done to the heap by one entry of a traceback -/
structure Ent (fs : List Addr) (e : Addr) (oe : Obj) (fl : Value) (h h' : Heap) : Prop where
  keep : ∀ b o, b ≠ e → h.get? b = some o → b ∉ fs → h'.get? b = some o
  slot : ∀ b o, b ≠ e → h.get? b = some o → ∃ sl, h'.get? b = some { o with slots := sl }
  exc : ∃ oe' vs T oT ts, h'.get? e = some oe' ∧ oe'.cls = oe.cls ∧ oe'.dict = oe.dict ∧ oe'.data = .fields vs ∧ vs[1]? = some (.ref T) ∧ h'.get? T = some oT ∧ oT.data = .fields ts ∧ ts[3]? = some fl ∧ T ≠ e ∧ T = h.objs.size
theorem entry_x {base : Heap} {env : Env} {outer : List Env} {L e : Addr} {oe : Obj} {vs : Array Value} {head : Value} {hadNext : Bool} {Q : Unit → Shared → Prop}
    (hfr : A.frames = some (env :: outer)) (hl : s.heap.FunFrames base (env :: outer)) (hf : env.frame = some L)
    (he : s.heap.get? e = some oe) (hd : oe.data = .fields vs) (hsz : 1 < vs.size)
    (h : ∀ h', Ent ((env :: outer).filterMap (·.frame)) e oe (rawInt L) s.heap h' → Q () { s with heap := h' }) :
    wpAny M A (do let a ← frameOf env; let pl ← entryPlaceOf L hadNext; let b ← EntryCells.newEntry head a .none (rawInt L) .none pl; setField (.ref e) 1 b) Q E s := by
  have hene : e ∉ (env :: outer).filterMap (·.frame) := fun hm => by
    obtain ⟨_, o, ho, hnf⟩ := hl.mem hm
    rw [he] at ho; injection ho with ho; subst ho; exact hnf vs hd
  refine wpAny_bind (wpAny_frameOf_fun hfr hl hf fun h₁ hs₁ => ?_)
  refine wpAny_bind (wpAny_entryPlaceOf fun pl hpl => ?_)
  unfold EntryCells.newEntry newFields
  refine wpAny_bind (wpAny_newObj_type ?_ (hpl.sizeOk5 _ _ _ _ _))
  have he₁ : h₁.get? e = some oe := (hs₁.2.1 e hene).trans he
  generalize hob : ({ cls := .type "traceback", dict := none, data := .fields ([head, .ref L, .none, rawInt L, .none] ++ (if pl.isEmpty then List.replicate 6 Value.none else pl)).toArray } : Obj) = ob
  have he₂ := Heap.get?_push_of_some (h := h₁) ob he₁
  refine wpAny_setField he₂ hd hsz (h _ ?_)
  have hTe : h₁.objs.size ≠ e := Nat.ne_of_gt (Heap.lt_size he₁)
  have hd₃ := Obj.data_mapFields hd (·.setIfInBounds 1 (Value.ref h₁.objs.size))
  have he₃ := Heap.get?_update_self (Obj.mapFields (·.setIfInBounds 1 (Value.ref h₁.objs.size))) he₂ (Obj.isFreed_of_fields hd₃)
  have hT₃ := (Heap.get?_update_other (h₁.push ob) (Obj.mapFields (·.setIfInBounds 1 (Value.ref h₁.objs.size))) (Ne.symm hTe)).trans (Heap.get?_push_size h₁ (by rw [← hob]; rfl))
  have up : ∀ b o, b ≠ e → h₁.get? b = some o → ((h₁.push ob).update e (Obj.mapFields (·.setIfInBounds 1 (Value.ref h₁.objs.size)))).get? b = some o := fun b o hbe hb => by
    rw [Heap.get?_update_other _ _ (Ne.symm hbe)]
    exact Heap.get?_push_of_some _ hb
  refine ⟨fun b o hbe hb hn => up b o hbe ((hs₁.2.1 b hn).trans hb), fun b o hbe hb => ?_, ?_⟩
  · obtain ⟨sl, hs⟩ := hs₁.2.2 b o hb
    exact ⟨sl, up b _ hbe hs⟩
  · refine ⟨_, _, h₁.objs.size, ob, _, he₃, Obj.cls_mapFields _ _, ?_, hd₃, by simp [hsz], hT₃, by rw [← hob], ?_, hTe, hs₁.1⟩
    · unfold Obj.mapFields; split <;> rfl
    · first | (simp; done) | (rcases hpl with rfl | ⟨_, _, _, _, _, _, _, rfl⟩ <;> simp)
end
end

section
open PySem PySem.W PySem.Calls PyProof.Rows
set_option maxRecDepth 100000
theorem slot_wget : Slot "wrapper_descriptor" "__get__" "wrapper_descriptor.__get__" := .of (owner := "wrapper_descriptor") (n := "__get__") (by rw [typeLookup_type, builtinLookup_eq_fast]; kernel_rfl) (by decide +kernel) (by decide +kernel) (by decide +kernel)
  (by first | exact .inl (by decide +kernel) | exact .inr (by decide +kernel)) (by rw [isSubtype_type]; kernel_rfl)
theorem entry_wget : entryFor table "wrapper_descriptor.__get__" = some Builtin.«wrapper_descriptor.__get__» := entryFor_of_tree (by kernel_rfl)
theorem type_init : typeOf (.builtin "Exception.__init__") = pure (.type "wrapper_descriptor") := by kernel_rfl
theorem wget_args (b c : Value) : argsOk "wrapper_descriptor.__get__" ⟨[.builtin "Exception.__init__", b, c], []⟩ := by unfold argsOk; kernel_rfl
section
variable {prog : Program} {w : World} {M : Model} {A : Around} {E : Value → Shared → Prop} {h : Heap} {g : Array GenState} {d : Drawn} {t : Nat} {os : OsState}
theorem wget_run {x C : Addr} {ox : Obj} {od : Option Obj} {K : Frag} {Q : Fin → Shared → Prop} (X : K.In h) (I : InstAt h x ox C od) (hs : mroIn K C (.type "Exception") = some true)
    (hq : Q (.done (.ret (.ref h.objs.size))) ⟨h.push { cls := .type "method-wrapper", data := .fields #[.builtin "Exception.__init__", .ref x] }, g, d, t, os⟩) :
    wpAny (model prog w) A (Builtin.«wrapper_descriptor.__get__» ⟨[.builtin "Exception.__init__", .ref x, .ref C], []⟩) Q E ⟨h, g, d, t, os⟩ := by
  have L : Looks (model prog w) h (isSubtype (.ref C) (.type "Exception")) true := looks_mroIn X hs
  have hx := I.at_
  have e1 : ".".intercalate (("Exception.__init__".cutAt '.').dropLast) = "Exception" := by decide +kernel
  unfold Builtin.«wrapper_descriptor.__get__»
  repeat (first
    | (with_reducible refine Looks.at L ?_)
    | (rw [e1, I.cls]; with_reducible refine Looks.at L ?_)
    | (with_reducible refine wpAny_newObj_type ?_ (by size_fits))
    | wp_step
    | dsimp only)
  all_goals exact hq
theorem super_ga_b {so D x C : Addr} {ox : Obj} {od : Option Obj} {l₀ l : List Value} {K : Frag} {name : Str} {tk : Tok} {Q : Fin → Shared → Prop}
    (hso : h.get? so = some { cls := .type "super", dict := none, data := .fields #[.ref D, .ref x, .ref C], slots := #[] }) (hno : Looks (model prog w) h (opaqueClassAbove (.ref C)) none)
    (hC : Looks (model prog w) h (mroOf (.ref C)) l₀) (hl : (l₀.dropWhile (· != .ref D)).drop 1 = l) (X : K.In h) (I : InstAt h x ox C od) (hs : mroIn K C (.type "Exception") = some true)
    (hf : alongIn K name l = some (some (.builtin "Exception.__init__"))) (hxC : x ≠ C) (hn : (name == ("__class__" : Str)) = false)
    (hq : Q (.done (.ret (.ref h.objs.size))) ⟨h.push { cls := .type "method-wrapper", data := .fields #[.builtin "Exception.__init__", .ref x] }, g, d, t, os⟩) :
    wpAny (model prog w) A (Builtin.«super.__getattribute__» ⟨[.ref so, .str name tk], []⟩) Q E ⟨h, g, d, t, os⟩ := by
  have hlk := slot_wget.lookup
  have hne : (Value.ref x == Value.ref C) = false := by simp [hxC]
  have hT : (⟨h, g, d, t, os⟩ : Shared).TypeIs (.builtin "Exception.__init__") "wrapper_descriptor" := type_init
  have hdt : ({ cls := .type "super", dict := none, data := .fields #[.ref D, .ref x, .ref C], slots := #[] } : Obj).data = .fields #[.ref D, .ref x, .ref C] := rfl
  have f0 : (#[.ref D, .ref x, .ref C] : Array Value)[0]? = some (.ref D) := rfl
  have f1 : (#[.ref D, .ref x, .ref C] : Array Value)[1]? = some (.ref x) := rfl
  have f2 : (#[.ref D, .ref x, .ref C] : Array Value)[2]? = some (.ref C) := rfl
  unfold Builtin.«super.__getattribute__»
  repeat (first
    | (with_reducible refine wpAny_field hso hdt f0 ?_) | (with_reducible refine wpAny_field hso hdt f1 ?_) | (with_reducible refine wpAny_field hso hdt f2 ?_)
    | (with_reducible refine ks_wpAny_notOpaque hno ?_)
    | (with_reducible refine Looks.at hC ?_; rw [hl])
    | (refine ks_forIn_along X (fun _ _ => rfl) rfl ?_ hf)
    | (with_reducible refine wpAny_typeOf hT ?_)
    | (with_reducible refine wpAny_call_entry slot_wget hT entry_wget (wget_run X I hs ?_) (wget_args _ _))
    | (with_reducible refine ⟨_, rfl, ?_⟩)
    | (simp only [hn, hne, Bool.or_false, Bool.false_eq_true, if_false])
    | wp_step
    | dsimp only)
  all_goals exact hq
theorem getMethod_super_b {so D x C : Addr} {ox : Obj} {od : Option Obj} {l₀ l : List Value} {K : Frag} {name : Str} {pl : Sem Bool} {Q : Value × List Value → Shared → Prop}
    (hso : h.get? so = some { cls := .type "super", dict := none, data := .fields #[.ref D, .ref x, .ref C], slots := #[] }) (hno : Looks (model prog w) h (opaqueClassAbove (.ref C)) none)
    (hC : Looks (model prog w) h (mroOf (.ref C)) l₀) (hl : (l₀.dropWhile (· != .ref D)).drop 1 = l) (X : K.In h) (I : InstAt h x ox C od) (hs : mroIn K C (.type "Exception") = some true)
    (hf : alongIn K name l = some (some (.builtin "Exception.__init__"))) (hxC : x ≠ C) (hn : (name == ("__class__" : Str)) = false)
    (hq : Q (.ref h.objs.size, []) ⟨h.push { cls := .type "method-wrapper", data := .fields #[.builtin "Exception.__init__", .ref x] }, g, d, t + 1, os⟩) :
    wpAny (model prog w) A (getMethod (.ref so) name pl) Q E ⟨h, g, d, t, os⟩ := by
  have hlk := F.ks_slot_super_ga.lookup
  have hcan := F.ks_canon_super_ga
  have hT : ∀ t', (⟨h, g, d, t', os⟩ : Shared).TypeIs (.ref so) "super" := fun _ => ⟨_, hso, rfl⟩
  unfold getMethod
  refine wpAny_bind (wpAny_specialOf (hT _) hlk ?_)
  show wpAny _ _ (if (Manifest.canonical "super.__getattribute__" != "object.__getattribute__") = true then _ else _) _ _ _
  rw [if_pos hcan]
  unfold getAttr getAttrBy
  refine wpAny_bind (wpAny_bind (wpAny_mkText (wpAny_holding (wpAny_bind (wpAny_typeOf (hT _) (wpAny_bind (wpAny_of_eq hlk ?_)))))))
  show wpAny _ _ (getAttrByItsOwn (.ref so) (.str name t) (.type "super") (.builtin "super.__getattribute__") true false) _ _ _
  unfold getAttrByItsOwn hookBefore callGetattribute boundAndCalled
  refine wpAny_bind (wpAny_of_eq (show (if onTheHeap (.type "super") then typeLookup (.type "super") "__getattr__" else pure none) = pure none from rfl) ?_)
  refine wpAny_bind (wpAny_attempt (wpAny_holding ?_))
  show wpAny _ _ (bindSpecial (.builtin "super.__getattribute__") (.ref so) >>= _) _ _ _
  refine wpAny_bind (wpAny_of_eq (F.ks_slot_super_ga.bind _) ?_)
  refine wpAny_mono (Q := fun v s' => v = .ref h.objs.size ∧ s' = ⟨h.push { cls := .type "method-wrapper", data := .fields #[.builtin "Exception.__init__", .ref x] }, g, d, t + 1, os⟩) (E := fun _ _ => False)
    (wpAny_call_entry F.ks_slot_super_ga (hT _) F.ks_entry_super_ga (super_ga_b hso hno hC hl X I hs hf hxC hn ⟨_, rfl, rfl, rfl⟩) (F.ks_gaArgs_super _ _)) (fun v s' hv => ?_) fun _ _ z => z.elim
  obtain ⟨rfl, rfl⟩ := hv
  exact wpAny_pure (wpAny_pure hq)
end
section
variable {prog : Program} {w : World} {A : Around} {E : Value → Shared → Prop} {s : Shared} {h₀ : Heap} {L : Addr} {m mg mb : Str → Option Value} {news : List (Addr × Obj)} {K : Frag} {x C D so : Addr} {ox : Obj} {odx : Option Obj}
abbrev wrapObj (i : String) (x : Addr) : Obj := { cls := .type "method-wrapper", data := .fields #[.builtin i, .ref x] }
theorem method_b {name : Str} {pl : Sem Bool} {Q : Value × List Value → Shared → Prop} (F : Fr h₀ L s.heap m) (X₀ : K.In h₀) (N : News h₀ L s.heap news) (hso : (so, ks_superObj D x C) ∈ news) (I : InstAt s.heap x ox C odx) (ho : nsIn K cStatics "thirdparty.any" = some none)
    (hm : ks_superIn K C D name = some (some (.builtin "Exception.__init__"))) (hs : mroIn K C (.type "Exception") = some true) (hn : (name == ("__class__" : Str)) = false)
    (h : ∀ q h', Fr h₀ L h' m → News h₀ L h' ((q, wrapObj "Exception.__init__" x) :: news) → (∀ p ∈ news, p.1 < q) → Q (.ref q, []) { s with heap := h', toks := s.toks + 1 }) : wpAny (model prog w) A (getMethod (.ref so) name pl) Q E s := by
  have X : K.In s.heap := X₀.keeps F.keep
  obtain ⟨hh, g, d, t, os⟩ := s
  cases hc : clsIn K C with
  | none => unfold ks_superIn at hm; rw [hc] at hm; cases hm
  | some cd =>
    unfold ks_superIn at hm
    rw [hc] at hm
    refine getMethod_super_b (N _ hso).1 (looks_opaque X ho) (l₀ := cd.mro) ?_ rfl X I hs hm (ks_ne X I hc) hn ?_
    · exact fun A Q E s k q => wpAny_bind ((looks_clsIn X hc) A _ E s k (wpAny_pure q))
    · obtain ⟨F', N', l'⟩ := ks_newsPush (s := ⟨hh, g, d, t, os⟩) (o := wrapObj "Exception.__init__" x) F N rfl (Heap.get?_push_at rfl rfl) (fun b o e => Heap.get?_push_of_some _ e)
      exact h _ _ F' N' l'
end
end

section
open PySem PySem.W PySem.Calls PyProof.Rows
set_option maxRecDepth 100000
theorem init_bound {M : Model} {A : Around} {E : Value → Shared → Prop} {h : Heap} {g : Array GenState} {d : Drawn} {t : Nat} {os : OsState} {nm q : Str} {C N x : Addr} {bs bm : List Value} {hdct : Bool} {sn : List Str} {sub : List Value} {ab : Bool} {col : Option Bool} {dd : Option Addr} {k0 k1 k2 k3 k5 : Option Value} {newId : String} {oe : Obj} {Q : Unit → Shared → Prop} {v : Value}
    (hC : h.get? C = some (excClassObj nm q C N bs bm hdct sn sub ab col dd k0 k1 k2 k3 k5 newId)) (he : h.get? x = some oe) (hcls : oe.cls = .ref C) (hq : Q () ⟨h, g, d, t, os⟩) : wpAny M A (checkBoundCall "Exception.__init__" ⟨[.ref x, v], []⟩) Q E ⟨h, g, d, t, os⟩ := by
  have FE := PySem.F.excBase_Exception
  unfold checkBoundCall
  rw [FE.initRow, FE.initKind]
  show wpAny _ _ (Bind.checkArgs "Exception.__init__" ⟨.positional, "*", "Exception", .self, [⟨"args", .varPos, false⟩]⟩ ⟨[.ref x, v], []⟩) _ _ _
  unfold Bind.checkArgs
  repeat (first | (with_reducible refine wpAny_loadPart_at he ?_; rw [hcls]) | with_reducible refine wpAny_loadPart_at hC ?_ | wp_step)
  exact hq
theorem under_init (A : Around) (x : Addr) (v : Value) : A.under (.builtin "Exception.__init__" ⟨[.ref x, v], []⟩) = A.in1 := Around.under_plainId (by decide +kernel) _
section
variable {prog : Program} {w : World} {A : Around} {E : Value → Shared → Prop} {s : Shared} {h₀ : Heap} {L : Addr} {m mg mb : Str → Option Value} {news : List (Addr × Obj)} {K : Frag} {x C D so : Addr} {ox : Obj} {odx : Option Obj}
theorem call_wrap {b : Addr} {v : Value} {R : Result → Shared → Prop} (X : K.In s.heap) (q : ktsIn K C "BaseException" = true) (I : InstAt s.heap x ox C odx) (hb : s.heap.get? b = some { cls := .type "method-wrapper", dict := none, data := .fields #[.builtin "Exception.__init__", .ref x], slots := #[] })
    (hq : codeAny (model prog w) A (.builtin "Exception.__init__" ⟨[.ref x, v], []⟩) R s) : codeAny (model prog w) A (.call (.ref b) ⟨[v], []⟩) R s := by
  obtain ⟨nm, q', N, bs, bm, hdct, sn, sub, ab, col, dd, k0, k1, k2, k3, k5, newId, hC, _, _⟩ := kts_cls X q
  refine codeAny_of_tree ?_
  show wpAny _ A.in1 (callAny (.ref b) ⟨[v], []⟩) _ _ _
  unfold callAny
  refine wpAny_bind (wpAny_load hb ?_)
  show wpAny _ _ (checkBoundCall "Exception.__init__" ⟨[.ref x, v], []⟩ >>= fun _ => again (Code.builtin "Exception.__init__" ⟨[.ref x, v], []⟩)) _ _ _
  refine wpAny_bind (init_bound hC I.at_ I.cls ?_)
  exact wpAny_pure ⟨Code.quiet_builtin _ (by decide +kernel), hq⟩
/-- Exception.__init__ on an object that has just been made -/
theorem init_b {v : Value} {mw t0 : Addr} {vs : Array Value} {pre post : List (Addr × Obj)} {Q : Value → Shared → Prop} (F : Fr h₀ L s.heap m) (X₀ : K.In h₀) (N : News h₀ L s.heap (pre ++ (x, ox) :: post)) (hm : (mw, wrapObj "Exception.__init__" x) ∈ pre ++ (x, ox) :: post)
    (q : ktsIn K C "BaseException" = true) (I : InstAt s.heap x ox C odx) (hd : ox.data = .fields vs) (h0 : vs[0]? = some (.ref t0)) (h1 : ∀ p ∈ pre, p.1 ≠ x) (h2 : ∀ p ∈ post, p.1 ≠ x)
    (h : ∀ h' T, Fr h₀ L h' m → News h₀ L h' (((T, ({ cls := .type "tuple", data := .seq #[v] } : Obj)) :: pre) ++ (x, { ox with data := .fields (vs.setIfInBounds 0 (.ref T)) }) :: post) → (∀ p ∈ pre ++ (x, ox) :: post, p.1 < T) → Q .none { s with heap := h' }) :
    wpAny (model prog w) A (call (.ref mw) [v]) Q E s := by
  refine wpAny_call (call_wrap (X₀.keeps F.keep) q I (N _ hm).1 (codeAny_builtin PySem.F.excBase_Exception.initEntry ?_))
  obtain ⟨hh, g, d, t, os⟩ := s
  rw [under_init]
  unfold Builtin.«BaseException.__init__» Builtin.BaseException.bexcPut
  have hx := (N (x, ox) (by simp)).1
  have hlt := Heap.lt_size hx
  have N' := N.push F ({ cls := .type "tuple", data := .seq #[v] } : Obj)
  have F' := F.push ({ cls := .type "tuple", data := .seq #[v] } : Obj)
  have hx' := Heap.get?_push_of_some ({ cls := .type "tuple", data := .seq #[v] } : Obj) hx
  have hsz := (Array.getElem?_eq_some_iff.mp h0).1
  obtain ⟨U1, U2⟩ := news_upd (f := Obj.mapFields (·.setIfInBounds 0 (.ref hh.objs.size))) (o' := { ox with data := .fields (vs.setIfInBounds 0 (.ref hh.objs.size)) }) (pre := (hh.objs.size, ({ cls := .type "tuple", data := .seq #[v] } : Obj)) :: pre) F' N'
    (fun p hp => by
      rcases List.mem_cons.mp hp with rfl | hp
      · exact Nat.ne_of_gt hlt
      · exact h1 p hp) h2 (by obtain ⟨_, _, oda, _⟩ := ox; dsimp only at hd; subst hd; rfl) rfl
  repeat (first
    | (with_reducible refine wpAny_field hx' hd h0 ?_)
    | (with_reducible refine wpAny_newObj_type ?_ (by size_fits))
    | (with_reducible refine wpAny_setField hx' hd hsz ?_)
    | (with_reducible refine wpAny_letGo ?_)
    | wp_step
    | dsimp only)
  all_goals exact h _ _ U1 U2 fun p hp => Heap.lt_size (N p hp).1
end
end

section
open PySem PySem.W PySem.Calls PyProof.Rows Builtin Builtin.ObjectAttr Builtin.Getset_descriptor
set_option maxRecDepth 100000
section
variable {prog : Program} {w : World} {A : Around} {E : Value → Shared → Prop} {s : Shared} {h₀ : Heap} {L : Addr} {m mg mb : Str → Option Value} {news : List (Addr × Obj)} {K : Frag} {x C D : Addr} {ox : Obj} {odx : Option Obj} {R : Result → Shared → Prop} {cd : ClassData}
theorem osa_any {od : Option Obj} {name : Str} {tk : Tok} {v : Value} (X : K.In s.heap) (I : InstAt s.heap x ox C od) (hc : clsIn K C = some cd) (ho : ∀ self, refuseLoop self "__setattr__" cd.mro = pure ()) (hobj : mroIn K C (.type "object") = some true) (ht : takerIn K C name = some none)
    (h : ∀ b, wpAny (model prog w) A.in1 (storeInOwnDict (.ref x) (.ref C) (.str name tk) name v b)
      (fun fin s' => match fin with | .done f => R (.ok f) s' | .again c' => c'.quiet = true ∧ codeAny (model prog w) A c' R s') (fun e s' => R (.error e) s') s) :
    codeAny (model prog w) A (.call (.builtin "object.__setattr__") ⟨[.ref x, .str name tk, v], []⟩) R s := by
  have SF := PySem.F.store_object
  have sub : Looks (model prog w) s.heap (isInstance (.ref x) (.type "object")) true := I.type.andThen (looks_mroIn X hobj)
  refine codeAny_call_builtin SF.slot.plain SF.entry (@check_slot (model prog w) _ _ s "object.__setattr__" "object" "__setattr__" (.ref x) [.str name tk, v] [] _ SF.kind SF.split sub (SF.args (.ref x) (.str name tk) v) ?_)
  obtain ⟨attr, ha, hr⟩ := Option.bind_eq_some_iff.mp ht
  have hm : Looks (model prog w) s.heap (mroOf (.ref C)) cd.mro := (looks_clsIn X hc).andThen .now
  have L3 : Looks (model prog w) s.heap (storeTaker? attr) none := by
    cases attr with
    | none => exact .now
    | some a =>
      obtain ⟨b, hb, e⟩ := Option.map_eq_some_iff.mp hr
      refine (looks_takesIn X hb).andThen ?_
      cases b
      · exact .now
      · cases e
  rw [osa_eq, refuse_eq]
  refine wpAny_bind (wpAny_bind (I.type.here (wpAny_bind (hm.here ?_))))
  rw [ho]
  refine wpAny_pure (wpAny_bind (I.type.here (wpAny_bind ((looks_findIn X ha).here (wpAny_bind (L3.here ?_))))))
  exact h _
/-- the first name stored on an object that has no dict yet -/
theorem set_first {name : Str} {v : Value} {pre post : List (Addr × Obj)} {Q : Unit → Shared → Prop} (F : Fr h₀ L s.heap m) (X₀ : K.In h₀) (N : News h₀ L s.heap (pre ++ (x, ox) :: post)) (I : InstAt s.heap x ox C none) (hs : findIn K (.ref C) "__setattr__" = some (some (.builtin "object.__setattr__")))
    (hc : clsIn K C = some cd) (ho : ∀ self, refuseLoop self "__setattr__" cd.mro = pure ()) (hobj : mroIn K C (.type "object") = some true) (ht : takerIn K C name = some none) (hd : cd.hasDict = true) {vs : Array Value} (hf : ox.data = .fields vs) (h1 : ∀ p ∈ pre, p.1 ≠ x) (h2 : ∀ p ∈ post, p.1 ≠ x)
    (h : ∀ h' D, Fr h₀ L h' m → News h₀ L h' (((D, dictOf [⟨PyData.keyHash w.params name, .str name (s.toks + 1), v⟩] 1) :: pre) ++ (x, { ox with dict := some D }) :: post) → (∀ p ∈ pre ++ (x, ox) :: post, p.1 < D) → Q () { s with heap := h', toks := s.toks + 2 }) :
    wpAny (model prog w) A (setAttr (.ref x) name v) Q E s := by
  have X : K.In s.heap := X₀.keeps F.keep
  refine set_plain X I hs (osa_any (s := { s with toks := s.toks + 1 }) X I hc ho hobj ht fun b => ?_)
  obtain ⟨hh, g, d, t, os⟩ := s
  dsimp only at X F N I h ⊢
  have nd := I.no
  have hcls := I.cls
  have hdict := I.dict
  clear I
  obtain ⟨oc, odi, oda, osl⟩ := ox
  dsimp only at hcls hdict nd
  subst hcls
  dsimp only at hf
  subst hf
  cases odi with
  | some _ => cases hdict
  | none =>
  have hx : hh.get? x = some ⟨.ref C, none, Data.fields vs, osl⟩ := (N (x, _) (by simp)).1
  have hlt : x < hh.objs.size := Heap.lt_size hx
  have N' := N.push F (dictOf [] 0)
  have F' := F.push (dictOf [] 0)
  have hx' := Heap.get?_push_of_some (dictOf [] 0) hx
  have hne : (hh.objs.size : Addr) ≠ x := Nat.ne_of_gt hlt
  obtain ⟨U1, U2⟩ := news_upd (f := fun o => { o with dict := some hh.objs.size }) (o' := ⟨.ref C, some hh.objs.size, Data.fields vs, osl⟩) (pre := (hh.objs.size, dictOf [] 0) :: pre) F' N'
    (fun p hp => by
      rcases List.mem_cons.mp hp with rfl | hp
      · exact hne
      · exact h1 p hp) h2 rfl rfl
  have lt : ∀ p ∈ pre ++ (x, ⟨.ref C, some hh.objs.size, Data.fields vs, osl⟩) :: post, p.1 ≠ hh.objs.size := fun p hp => by
    rcases List.mem_append.mp hp with q | q
    · exact Nat.ne_of_lt (Heap.lt_size (N p (List.mem_append_left _ q)).1)
    · rcases List.mem_cons.mp q with rfl | q
      · exact Ne.symm hne
      · exact Nat.ne_of_lt (Heap.lt_size (N p (List.mem_append_right _ (.tail _ q))).1)
  obtain ⟨V1, V2⟩ := news_upd (f := Obj.putName name (PyData.keyHash w.params name) (.str name (t + 1)) v) (o' := dictOf [⟨PyData.keyHash w.params name, .str name (t + 1), v⟩] 1) (pre := []) U1 U2 (fun _ h => nomatch h)
    lt (by rw [putName_dict]; simp [putL, putN]) rfl
  have D1 := (U2 (hh.objs.size, dictOf [] 0) (by simp)).1
  have D2 := (V2 (hh.objs.size, dictOf [⟨PyData.keyHash w.params name, .str name (t + 1), v⟩] 1) (by simp)).1
  unfold storeInOwnDict
  have X2 := looks_clsIn (M := model prog w) X hc
  refine wpAny_bind (wpAny_pure (wpAny_bind (wpAny_bind (wpAny_loadPart hx (wpAny_bind (X2.at ?_))))))
  rw [hd]
  refine wpAny_bind (wpAny_alloc (wpAny_bind (wpAny_update hx' (wpAny_pure ?_))))
  show wpAny _ _ (storeInDict hh.objs.size (Value.str name t) name v) _ _ _
  unfold storeInDict
  refine wpAny_bind (wpAny_pure (wpAny_bind ?_))
  unfold nsSet
  refine wpAny_bind (wpAny_bind (wpAny_askSetting (wpAny_pure (wpAny_bind (wpAny_mkText (wpAny_bind (wpAny_loadPart D1 ?_)))))))
  dsimp only
  have c : (!(#[] : Array DictEntry).any (·.key.isStr name) && (#[] : Array DictEntry).any (·.refKey)) = false := by simp
  rw [aRefKeyMayBeTheName_at, c]
  refine wpAny_updatePart D1 ?_
  refine wpAny_bind (wpAny_lookBehind D2 (pastItsLine_dict (by rw [List.size_toArray, sizeLine_eq]; exact Nat.le_of_ble_eq_true rfl)) ?_)
  exact wpAny_pure (h _ _ V1 V2 fun p hp => Heap.lt_size (N p hp).1)
/-- one more name stored in the dict that an object has -/
theorem set_more {name : Str} {v : Value} {pre post : List (Addr × Obj)} {Q : Unit → Shared → Prop} {dx : Addr} {es : List DictEntry} {n : Nat} (F : Fr h₀ L s.heap m) (X₀ : K.In h₀) (N : News h₀ L s.heap (pre ++ (dx, dictOf es n) :: post)) (I : InstAt s.heap x ox C (some (dictOf es n))) (hs : findIn K (.ref C) "__setattr__" = some (some (.builtin "object.__setattr__")))
    (hc : clsIn K C = some cd) (ho : ∀ self, refuseLoop self "__setattr__" cd.mro = pure ()) (hobj : mroIn K C (.type "object") = some true) (ht : takerIn K C name = some none) (hd : cd.hasDict = true) (hdx : ox.dict = some dx) (hl : (!es.any (·.key.isStr name) && es.any (·.refKey)) = false) (hz : (putL name (PyData.keyHash w.params name) (.str name (s.toks + 1)) v es).length ≤ 1000) (h1 : ∀ p ∈ pre, p.1 ≠ dx) (h2 : ∀ p ∈ post, p.1 ≠ dx)
    (h : ∀ h', Fr h₀ L h' m → News h₀ L h' (pre ++ (dx, dictOf (putL name (PyData.keyHash w.params name) (.str name (s.toks + 1)) v es) (putN name es n)) :: post) → Q () { s with heap := h', toks := s.toks + 2 }) :
    wpAny (model prog w) A (setAttr (.ref x) name v) Q E s := by
  have X : K.In s.heap := X₀.keeps F.keep
  refine set_plain X I hs (osa_any (s := { s with toks := s.toks + 1 }) X I hc ho hobj ht fun b => ?_)
  obtain ⟨hh, g, d, t, os⟩ := s
  dsimp only at X F N I h hz ⊢
  have hx := I.at_
  have hcls := I.cls
  clear I
  obtain ⟨oc, odi, oda, osl⟩ := ox
  dsimp only at hcls hdx
  subst hcls hdx
  have D1 := (N (dx, dictOf es n) (by simp)).1
  obtain ⟨V1, V2⟩ := news_upd (f := Obj.putName name (PyData.keyHash w.params name) (.str name (t + 1)) v) (o' := dictOf (putL name (PyData.keyHash w.params name) (.str name (t + 1)) v es) (putN name es n)) F N h1 h2 (by rw [putName_dict]) rfl
  have D2 := (V2 (dx, dictOf (putL name (PyData.keyHash w.params name) (.str name (t + 1)) v es) (putN name es n)) (by simp)).1
  unfold storeInOwnDict
  have X2 := looks_clsIn (M := model prog w) X hc
  refine wpAny_bind (wpAny_pure (wpAny_bind (wpAny_bind (wpAny_loadPart hx (wpAny_bind (X2.at ?_))))))
  rw [hd]
  refine wpAny_pure (a := some dx) ?_
  show wpAny _ _ (storeInDict dx (Value.str name t) name v) _ _ _
  unfold storeInDict
  refine wpAny_bind (wpAny_pure (wpAny_bind ?_))
  unfold nsSet
  refine wpAny_bind (wpAny_bind (wpAny_askSetting (wpAny_pure (wpAny_bind (wpAny_mkText (wpAny_bind (wpAny_loadPart D1 ?_)))))))
  dsimp only
  have c : (!es.toArray.any (·.key.isStr name) && es.toArray.any (·.refKey)) = false := by rw [← Array.any_toList, ← Array.any_toList]; exact hl
  rw [aRefKeyMayBeTheName_at, c]
  refine wpAny_updatePart D1 ?_
  refine wpAny_bind (wpAny_lookBehind D2 (pastItsLine_dict (by rw [List.size_toArray, sizeLine_eq]; omega)) ?_)
  exact wpAny_pure (h _ V1 V2)
end
end

section
open PySem PySem.W PySem.Calls PyProof.Rows
set_option maxRecDepth 100000
section
variable {prog : Program} {w : World} {A : Around} {E : Value → Shared → Prop} {h : Heap} {g : Array GenState} {d : Drawn} {t : Nat} {os : OsState}
variable {nm q : Str} {C N fI : Addr} {bs : List Value} {hdct : Bool} {sn : List Str} {sub : List Value} {ab : Bool} {col : Option Bool} {dd : Option Addr} {k0 k1 k2 k3 k5 : Option Value} {K : Frag}
abbrev excBm : List Value := [.type "Exception", .type "BaseException", .type "object"]
abbrev excNew (C t : Addr) : Obj := { cls := .ref C, data := .fields #[.ref t, .none, .none, .none, .bool false, .none] }
theorem type_call_own {rest : List Value} {Q : Value → Shared → Prop} (X : K.In h)
    (hC : h.get? C = some (excClassObj nm q C N bs excBm hdct sn sub ab col dd k0 k1 k2 k3 k5 "Exception.__new__")) (hi : findIn K (.ref C) "__init__" = some (some (.ref fI))) (hf : typeIn K (.ref fI) = some (.type "function"))
    (hq : codeAny (model prog w) (A.under (.builtin "type.__call__" ⟨.ref C :: rest, []⟩)) (.call (.ref fI) ⟨.ref (h.objs.size + 1) :: rest, []⟩) (InitBack (h.objs.size + 1) fun r s' => match r with | .ok (.ret v) => Q v s' | .ok _ => False | .error e => E e s')
      ⟨(h.push { cls := .type "tuple", data := .seq rest.toArray }).push { cls := .ref C, data := .fields #[.ref h.objs.size, .none, .none, .none, .bool false, .none] }, g, d, t, os⟩) (hrest : rest.length ≤ sizeLine := by size_fits) :
    wpAny (model prog w) A (call (.ref C) rest) Q E ⟨h, g, d, t, os⟩ := by
  have f1 := tc_lookup
  have f2 := tc_bind (.ref C)
  have FE := PySem.F.excBase_Exception
  have hT : (⟨h, g, d, t, os⟩ : Shared).TypeIs (.ref C) "type" := ⟨_, hC, rfl⟩
  refine wpAny_call (codeAny_of_tree ?_)
  show wpAny _ _ (callAny (.ref C) _) _ _ _
  repeat (any_goals (first | assumption | with_reducible refine wpAny_loadPart_at hC ?_ | wp_step))
  refine ⟨rfl, ?_⟩
  refine codeAny_call_builtin_at (Code.quiet_builtin _ (by decide +kernel)) entry_typeCall (wpAny_check_type_call_sub hC ?_)
  repeat (first | with_reducible refine wpAny_loadPart_at hC ?_ | with_reducible refine wpAny_madeBy_exc hC ?_ | wp_step)
  refine codeAny_call_builtin_code (Code.quiet_builtin _ FE.quiet) (wpAny_check_new_sub FE hC ?_)
  refine codeAny_exc_new_sub FE hC ?_ hrest
  show wpAny _ _ _ _ _ _
  have k : ∀ b o, h.get? b = some o → ((h.push { cls := .type "tuple", data := .seq rest.toArray }).push { cls := .ref C, data := .fields #[.ref h.objs.size, .none, .none, .none, .bool false, .none] }).get? b = some o := fun b o e => Heap.get?_push_of_some _ (Heap.get?_push_of_some _ e)
  have hC₁ := k _ _ hC
  have X₁ : K.In ((h.push { cls := .type "tuple", data := .seq rest.toArray }).push { cls := .ref C, data := .fields #[.ref h.objs.size, .none, .none, .none, .bool false, .none] }) := X.keeps k
  have hget : ((h.push { cls := .type "tuple", data := .seq rest.toArray }).push { cls := .ref C, data := .fields #[.ref h.objs.size, .none, .none, .none, .bool false, .none] }).get? (h.objs.size + 1) = some { cls := .ref C, data := .fields #[.ref h.objs.size, .none, .none, .none, .bool false, .none] } := by heap_get
  have hcC : (Value.ref C :: excBm).contains (.ref C) = true := by simp
  have L1 := looks_findIn (M := model prog w) X₁ hi
  have L2 := bind_fn (M := model prog w) X₁ (.ref (h.objs.size + 1)) hf
  unfold isInstance
  repeat (first | with_reducible refine wpAny_loadPart_at hget ?_ | (refine wpAny_isSubtype_exc hC₁ ?_; rw [hcC]) | wp_step)
  show wpAny _ _ (typeLookup (.ref C) _) _ _ _
  refine L1.at ?_
  refine wpAny_holding (wpAny_bind (L2.at ?_))
  refine wpAny_bind (wpAny_call (codeAny_mono hq fun r s' z => ?_))
  rcases r with e | (v | _ | _ | _) <;> first | exact z | exact z.elim | skip
  obtain ⟨rfl, z⟩ := z
  exact wpAny_pure (wpAny_pure z)
end
section
variable {prog : Program} {w : World} {A : Around} {E : Value → Shared → Prop} {s : Shared} {h₀ : Heap} {L : Addr} {m : Str → Option Value} {news : List (Addr × Obj)}
variable {nm q : Str} {C N' fI : Addr} {bs : List Value} {hdct : Bool} {sn : List Str} {sub : List Value} {ab : Bool} {col : Option Bool} {dd : Option Addr} {k0 k1 k2 k3 k5 : Option Value} {K : Frag}
theorem call_own {rest : List Value} {Q : Value → Shared → Prop} (F : Fr h₀ L s.heap m) (X₀ : K.In h₀) (N : News h₀ L s.heap news)
    (hC : K.lookup C = some (excClassObj nm q C N' bs excBm hdct sn sub ab col dd k0 k1 k2 k3 k5 "Exception.__new__")) (hi : findIn K (.ref C) "__init__" = some (some (.ref fI))) (hf : typeIn K (.ref fI) = some (.type "function"))
    (h : ∀ e t h', Fr h₀ L h' m → News h₀ L h' ((e, ({ cls := .ref C, data := .fields #[.ref t, .none, .none, .none, .bool false, .none] } : Obj)) :: (t, ({ cls := .type "tuple", data := .seq rest.toArray } : Obj)) :: news) → (∀ p ∈ news, p.1 < t) → t < e →
      codeAny (model prog w) (A.under (.builtin "type.__call__" ⟨.ref C :: rest, []⟩)) (.call (.ref fI) ⟨.ref e :: rest, []⟩) (InitBack e fun r s' => match r with | .ok (.ret v) => Q v s' | .ok _ => False | .error e => E e s') { s with heap := h' })
    (hrest : rest.length ≤ sizeLine := by size_fits) : wpAny (model prog w) A (call (.ref C) rest) Q E s := by
  have X : K.In s.heap := X₀.keeps F.keep
  obtain ⟨hh, g, d, t, os⟩ := s
  dsimp only at F N X
  have n1 := N.push F ({ cls := .type "tuple", data := .seq rest.toArray } : Obj)
  have f1 := F.push ({ cls := .type "tuple", data := .seq rest.toArray } : Obj)
  have n2 := n1.push f1 ({ cls := .ref C, data := .fields #[.ref hh.objs.size, .none, .none, .none, .bool false, .none] } : Obj)
  have f2 := f1.push ({ cls := .ref C, data := .fields #[.ref hh.objs.size, .none, .none, .none, .bool false, .none] } : Obj)
  rw [Heap.size_push] at n2
  exact type_call_own (hrest := hrest) X (X _ _ hC) hi hf (h _ _ _ f2 n2 (fun p hp => Heap.lt_size (N p hp).1) (Nat.lt_succ_self _))
end
end

section
open PySem PySem.W PySem.Calls PyProof.Rows PySem.Spec
section
variable {prog : Program} {w : World} {A : Around} {E : Value → Shared → Prop} {s : Shared} {K : Frag} {x C : Addr} {ox : Obj} {od : Option Obj} {name : Str} {expr : Bool} {Q : Value → Shared → Prop}
theorem check_ga {M : Model} {A : Around} {E : Value → Shared → Prop} {hp : Heap} {g : Array GenState} {d : Drawn} {t : Nat} {os : OsState} {nm q : Str} {C N x : Addr} {o : Obj} {bs bm : List Value} {hdct : Bool} {sn : List Str} {sub : List Value} {ab : Bool} {col : Option Bool} {dd : Option Addr} {k0 k1 k2 k3 k5 : Option Value} {newId : String} {nameV : Value} {Q : Unit → Shared → Prop}
    (hC : hp.get? C = some (excClassObj nm q C N bs bm hdct sn sub ab col dd k0 k1 k2 k3 k5 newId)) (hb : bm.contains (.type "BaseException") = true)
    (hx : hp.get? x = some o) (hc : o.cls = .ref C) (hq : Q () ⟨hp, g, d, t, os⟩) : wpAny M A (checkBuiltinCall "BaseException.__getattribute__" ⟨[.ref x, nameV], []⟩) Q E ⟨hp, g, d, t, os⟩ := by
  have hk : builtinKind "BaseException.__getattribute__" = some .slot := by decide +kernel
  have hsplit : splitId "BaseException.__getattribute__" = some ("BaseException", "__getattribute__") := by decide +kernel
  have hcB : (Value.ref C :: bm).contains (.type "BaseException") = true := by rw [List.contains_cons, hb, Bool.or_true]
  have ha := F.args_bexc_ga (.ref x) nameV
  simp only [checkBuiltinCall, hk, hsplit]
  refine wpAny_bind ?_
  unfold isInstance
  repeat (first | (with_reducible refine wpAny_loadPart_at hx ?_; rw [hc]) | (with_reducible refine wpAny_isSubtype_exc hC ?_; rw [hcB]) | wp_step)
  exact hq
theorem exc_get {v : Value} (X : K.In s.heap) (q : ktsIn K C "BaseException" = true) (I : InstAt s.heap x ox C od) (hga : findIn K (.ref C) "__getattribute__" = some (some (.builtin "BaseException.__getattribute__")))
    (hgn : findIn K (.ref C) "__getattr__" = some none) (hf : findObj K C od name = some (.value v)) (hh : handedIn v = true) (h : Q v { s with toks := s.toks + 1 }) : wpAny (model prog w) A (getAttr (.ref x) name expr) Q E s := by
  obtain ⟨nm, q', N, bs, bm, hdct, sn, sub, ab, col, dd, k0, k1, k2, k3, k5, newId, hC, hb, _⟩ := kts_cls X q
  obtain ⟨hp, g, d, t, os⟩ := s
  have L0 := I.type (M := model prog w)
  have L1 := looks_findIn (M := model prog w) X hga
  have L2 := looks_findIn (M := model prog w) X hgn
  have L3 := looks_find (M := model prog w) X I hf
  have f3 := F.excAttr_ValueError.ga.bind (.ref x)
  unfold getAttr getAttrBy
  refine wpAny_bind (wpAny_mkText (wpAny_holding (wpAny_bind (L0.at (wpAny_bind (L1.at ?_))))))
  show wpAny _ _ (getAttrByItsOwn _ _ _ _ _ _) _ _ _
  unfold getAttrByItsOwn
  refine wpAny_bind (show wpAny _ _ (typeLookup _ _) _ _ _ from L2.at ?_)
  have hx0 : (expr && onTheHeap (Value.builtin "BaseException.__getattribute__")) = false := by cases expr <;> rfl
  unfold callGetattribute
  rw [hx0]
  refine wpAny_bind (wpAny_attempt (wpAny_holding ?_))
  show wpAny _ _ (boundAndCalled _ _ _) _ _ _
  unfold boundAndCalled
  refine wpAny_bind (wpAny_of_eq f3 ?_)
  refine wpAny_call ?_
  refine codeAny_call_builtin F.excAttr_ValueError.ga.plain F.entry_bexc_ga (check_ga hC hb I.at_ I.cls ?_)
  refine wpAny_bind (wpAny_pure (wpAny_bind (wpAny_pure (wpAny_bind (L0.at (wpAny_bind (L3.at ?_)))))))
  refine wpAny_pure ?_
  show wpAny _ _ (handedOut v) _ _ _
  rw [handedOut_of hh]; exact wpAny_pure h
end
theorem exc_findings (w : World) : ktsIn (hd.heap_1 w.params) 34 "BaseException" = true ∧ findIn (hd.heap_1 w.params) (.ref 34) "__getattribute__" = some (some (.builtin "BaseException.__getattribute__")) ∧ findIn (hd.heap_1 w.params) (.ref 34) "__getattr__" = some none := by
  refine ⟨by rfl, by rfl, by rfl⟩
end

section
open PySem PySem.W PySem.Calls PyProof.Rows PySem.Spec
/-- an exception with its own dict, under way -/
def TrX (h B : Heap) (e : Addr) (C : Value) (dd : Addr) (fl : Value) : Prop :=
  ∃ oe vs T oT ts, h.get? e = some oe ∧ oe.cls = C ∧ oe.dict = some dd ∧ oe.data = .fields vs ∧ vs[1]? = some (.ref T) ∧ B.get? T = none ∧ T ≠ e ∧ h.get? T = some oT ∧ oT.data = .fields ts ∧ ts[3]? = some fl
def FlyX (B : Heap) (l : List Env) (e : Addr) (C : Value) (dd : Addr) (fl : Value) (h : Heap) : Prop := B.StaysIn h ∧ B.get? e = none ∧ h.FunFrames B l ∧ TrX h B e C dd fl
section
variable {M : Model} {A : Around} {E : Value → Shared → Prop} {s : Shared}
theorem Ent.after {B h h' : Heap} {env : Env} {outer : List Env} {e dd : Addr} {oe : Obj} {vs : Array Value} {fl C : Value} (x : Ent ((env :: outer).filterMap (·.frame)) e oe fl h h')
    (hl : h.FunFrames B (env :: outer)) (hkb : B.StaysIn h) (hen : B.get? e = none) (he : h.get? e = some oe) (hd : oe.data = .fields vs) (hc : oe.cls = C) (hdd : oe.dict = some dd) : FlyX B (env :: outer) e C dd fl h' ∧ h.UpToSlots h' := by
  have noe : ∀ b o, h.get? b = some o → (∀ vs, o.data ≠ .fields vs) → b ≠ e := fun b o hb hnf q => by
    rw [q, he] at hb; injection hb with hb; subst hb; exact hnf vs hd
  obtain ⟨oe', vs', T, oT, ts, e1, e2, e3, e4, e5, e6, e7, e8, e9, e10⟩ := x.exc
  refine ⟨⟨fun b o hbo => x.keep b o (fun q => by rw [q, hen] at hbo; cases hbo) (hkb b o hbo) (fun hm => by rw [(hl.mem hm).1] at hbo; cases hbo), hen, hl.of_keeps fun b o hb hnf => ?_, oe', vs', T, oT, ts, e1, e2.trans hc, e3.trans hdd, e4, e5, ?_, e9, e6, e7, e8⟩, fun b o hb hnf => ?_⟩
  · obtain ⟨sl, hs⟩ := x.slot b o (noe b o hb hnf) hb
    exact ⟨_, hs, rfl⟩
  · rw [e10]; exact hkb.fresh
  · exact x.slot b o (noe b o hb hnf) hb
theorem land_x {B : Heap} {l : List Env} {e dd : Addr} {C fl : Value} {Q : Unit → Shared → Prop} (hh : FlyX B l e C dd fl s.heap)
    (hQ : ∀ h', FlyX B l e C dd .none h' → s.heap.UpToSlots h' → Q () { s with heap := h' }) : wpAny M A (setFlight (.ref e) none) Q E s := by
  obtain ⟨hkb, hen, hl, oe, vs, T, oT, ts, he, hc, hdd, hd, h1, hnT, hTe, hT, hdT, h3⟩ := hh
  have hsz3 : 3 < ts.size := (Array.getElem?_eq_some_iff.mp h3).1
  have other : ∀ b, b ≠ T → (s.heap.update T (Obj.mapFields (·.setIfInBounds 3 ((none : Option Addr).elim Value.none fun f => rawInt f)))).get? b = s.heap.get? b :=
    fun b hb => Heap.get?_update_other _ _ (Ne.symm hb)
  have noRecord : ∀ b o, s.heap.get? b = some o → (∀ vs, o.data ≠ .fields vs) → b ≠ T := fun b o hb hnf q => by
    rw [q, hT] at hb; injection hb with hb; subst hb; exact hnf ts hdT
  unfold setFlight
  refine wpAny_bind (wpAny_field he hd h1 ?_)
  rw [if_pos (show (Value.ref T != Value.none) = true from by simp)]
  refine wpAny_setField hT hdT hsz3 (hQ _ ⟨fun b o hbo => (other b fun q => by rw [q, hnT] at hbo; cases hbo).trans (hkb b o hbo), hen,
    hl.of_keeps fun b o hb hnf => ⟨o, (other b (noRecord b o hb hnf)).trans hb, rfl⟩, ?_⟩ fun b o hb hnf => ⟨o.slots, (other b (noRecord b o hb hnf)).trans hb⟩)
  exact ⟨oe, vs, T, _, _, (other e (Ne.symm hTe)).trans he, hc, hdd, hd, h1, hnT, hTe, Heap.get?_update_self _ hT (Obj.isFreed_of_fields (Obj.data_mapFields hdT _)), Obj.data_mapFields hdT _, by simp [hsz3]⟩
theorem look_x {B : Heap} {env : Env} {outer : List Env} {L e dd : Addr} {C : Value} {Q : Unit → Shared → Prop} (hfr : A.frames = some (env :: outer)) (hf : env.frame = some L) (hh : FlyX B (env :: outer) e C dd .none s.heap)
    (hQ : ∀ h', FlyX B (env :: outer) e C dd (rawInt L) h' → s.heap.UpToSlots h' → Q () { s with heap := h' }) : wpAny M A (noteFrame (.ref e) env) Q E s := by
  obtain ⟨hkb, hen, hl, oe, vs, T, oT, ts, he, hc, hdd, hd, h1, hnT, hTe, hT, hdT, h3⟩ := hh
  unfold noteFrame
  simp only [hf]
  refine wpAny_bind (wpAny_field he hd h1 ?_)
  rw [if_pos (show (Value.ref T != Value.none) = true from by simp)]
  refine wpAny_bind (wpAny_field hT hdT h3 ?_)
  rw [if_neg (show ¬ ((Value.none == rawInt L) = true) from by simp [rawInt])]
  refine wpAny_bind (wpAny_setField hT hdT (Array.getElem?_eq_some_iff.mp h3).1 ?_)
  have other : ∀ b, b ≠ T → (s.heap.update T (Obj.mapFields (·.setIfInBounds 3 Value.none))).get? b = s.heap.get? b := fun b hb => Heap.get?_update_other _ _ (Ne.symm hb)
  have noRecord : ∀ b o, s.heap.get? b = some o → (∀ vs, o.data ≠ .fields vs) → b ≠ T := fun b o hb hnf q => by
    rw [q, hT] at hb; injection hb with hb; subst hb; exact hnf ts hdT
  have hl₂ := hl.of_keeps (h' := s.heap.update T (Obj.mapFields (·.setIfInBounds 3 Value.none))) fun b o hb hnf => ⟨o, (other b (noRecord b o hb hnf)).trans hb, rfl⟩
  have hk₂ : B.StaysIn (s.heap.update T (Obj.mapFields (·.setIfInBounds 3 Value.none))) := fun b o hbo => (other b fun q => by rw [q, hnT] at hbo; cases hbo).trans (hkb b o hbo)
  have he₂ := (other e (Ne.symm hTe)).trans he
  refine entry_x hfr hl₂ hf he₂ hd (Array.getElem?_eq_some_iff.mp h1).1 fun h' x => ?_
  obtain ⟨r1, r2⟩ := x.after hl₂ hk₂ hen he₂ hd hc hdd
  exact hQ h' r1 fun b o hb hnf => r2 b o ((other b (noRecord b o hb hnf)).trans hb) hnf
theorem leave_x {B : Heap} {env : Env} {outer : List Env} {L e dd : Addr} {C : Value} {Q : Unit → Shared → Prop} (hfr : A.frames = some (env :: outer)) (hf : env.frame = some L) (hh : FlyX B (env :: outer) e C dd .none s.heap)
    (hQ : ∀ h', FlyX B outer e C dd .none h' → s.heap.UpToSlots h' → Q () { s with heap := h' }) : wpAny M A (leaving env (.ref e)) Q E s := by
  unfold leaving
  refine wpAny_bind (look_x hfr hf hh fun h₁ x₁ u₁ => land_x x₁ fun h₂ x₂ u₂ => ?_)
  obtain ⟨k1, k2, ⟨_, _, k3⟩, k4⟩ := x₂
  exact hQ h₂ ⟨k1, k2, k3, k4⟩ (u₁.trans u₂)
theorem first_x {B : Heap} {env : Env} {outer : List Env} {L e dd : Addr} {oe : Obj} {vs : Array Value} {C : Value} {Q : Unit → Shared → Prop} (hfr : A.frames = some (env :: outer)) (hf : env.frame = some L) (hl : s.heap.FunFrames B (env :: outer)) (hkb : B.StaysIn s.heap) (hen : B.get? e = none)
    (he : s.heap.get? e = some oe) (hd : oe.data = .fields vs) (h1 : vs[1]? = some .none) (hc : oe.cls = C) (hdd : oe.dict = some dd)
    (hQ : ∀ h', FlyX B outer e C dd .none h' → s.heap.UpToSlots h' → Q () { s with heap := h' }) : wpAny M A (leaving env (.ref e)) Q E s := by
  unfold leaving noteFrame
  simp only [hf]
  refine wpAny_bind (wpAny_bind (wpAny_field he hd h1 ?_))
  rw [if_neg (by decide)]
  refine entry_x hfr hl hf he hd (Array.getElem?_eq_some_iff.mp h1).1 fun h₁ x => ?_
  obtain ⟨r1, r2⟩ := x.after hl hkb hen he hd hc hdd
  refine land_x r1 fun h₂ x₂ u₂ => ?_
  obtain ⟨k1, k2, ⟨_, _, k3⟩, k4⟩ := x₂
  exact hQ h₂ ⟨k1, k2, k3, k4⟩ (r2.trans u₂)
end
end

section
open PySem PySem.W PySem.Calls PyProof.Rows PySem.Spec
/-- a dict in which the key code has the text TM -/
def CodeDict (od : Obj) : Prop := ∃ es n t, od = dictOf es n ∧ getL (Str.ofString "code") es = some (some (.str (Str.ofString "TM") t))
/-- an exception of class 34 has come out to the frame env (locals L, below it outer), the ledger stands -/
def XR (base h₀ : Heap) (env : Env) (outer : List Env) (L : Addr) (m : Str → Option Value) (news : List (Addr × Obj)) (e : Addr) (h : Heap) : Prop :=
  ∃ B dd od, base.StaysIn B ∧ (∀ b o, h₀.get? b = some o → b ∉ outer.filterMap (·.frame) → B.get? b = some o) ∧ (∀ q ∈ news, B.get? q.1 = some q.2) ∧
    FlyX B (env :: outer) e (.ref 34) dd .none h ∧ B.get? dd = some od ∧ CodeDict od ∧ h₀.get? dd = none ∧ h₀.get? e = none ∧ h₀.UpToSlots h ∧ h.Ns L m
theorem mem_frames {env : Env} {outer : List Env} {L b : Addr} (hf : env.frame = some L) (hm : b ∈ (env :: outer).filterMap (·.frame)) : b = L ∨ b ∈ outer.filterMap (·.frame) := by
  rw [List.filterMap_cons, hf] at hm
  exact List.mem_cons.mp hm
section
variable {M : Model} {A : Around} {E : Value → Shared → Prop} {s : Shared} {base h₀ g h₁ : Heap} {env : Env} {outer : List Env} {L L' a e : Addr} {m m' : Str → Option Value} {name : Str} {scope : Scope} {cd : Value} {Q : Unit → Shared → Prop} {news news' : List (Addr × Obj)} {cl : List (Str × Addr)}
/-- one frame up -/
theorem XR.out (hfr : A.frames = some (env :: outer)) (hf : env.frame = some L) (FG : Fr h₀ L g m) (R : XR base g (envOf name scope L' a cd) (env :: outer) L' m' news' e s.heap) (hs : ∀ p ∈ news, p ∈ news')
    (hQ : ∀ h', XR base h₀ env outer L m news e h' → Q () { s with heap := h' }) : wpAny M (A.deeper (envOf name scope L' a cd)) (leaving (envOf name scope L' a cd) (.ref e)) Q E s := by
  obtain ⟨B, dd, od, r1, r2, r3, r4, r5, r6, r7, r8, r9, r10⟩ := R
  refine leave_x (Around.frames_deeper hfr) rfl r4 fun h' x u => hQ h' ⟨B, dd, od, r1, fun b o hb nm => r2 b o (FG.keep b o hb) fun hm => ?_, fun q hq => r3 q (hs q hq), x, r5, r6, kts_none FG.keep r7, kts_none FG.keep r8,
    (Heap.UpToSlots.of_keeps FG.keep).trans (r9.trans u), (r9.trans u).ns FG.ns⟩
  rcases mem_frames hf hm with z | z
  · rw [z, kts_self FG] at hb; cases hb
  · exact nm z
/-- the frame in which the exception has been made, left -/
theorem XR.first (K : Below A base (env :: outer) g) (hf : env.frame = some L) (FG : Fr h₀ L g m) (F : Fr g L' h₁ m') (N : News g L' h₁ news') (hs : ∀ p ∈ news, p ∈ news')
    (keep : ∀ b o, h₁.get? b = some o → s.heap.get? b = some o) {dd : Addr} {oe od : Obj} {vs : Array Value} (he : s.heap.get? e = some oe) (hc : oe.cls = .ref 34) (hdd : oe.dict = some dd) (hd : oe.data = .fields vs) (h1 : vs[1]? = some .none)
    (hod : s.heap.get? dd = some od) (hcd : CodeDict od) (ne : h₁.get? e = none) (nd : h₁.get? dd = none) (hk : scope.kind = .function)
    (hQ : ∀ h', XR base h₀ env outer L m news e h' → Q () { s with heap := h' }) : wpAny M (A.deeper (envOf name scope L' a cd)) (leaving (envOf name scope L' a cd) (.ref e)) Q E s := by
  have K' := K.push (name := name) (scope := scope) (a := a) (cd := cd) F hk
  generalize hfs : (envOf name scope L' a cd :: env :: outer).filterMap (·.frame) = fs
  have hin : ∀ env' ∈ (envOf name scope L' a cd :: env :: outer), ∀ b, env'.frame = some b → b ∈ e :: fs := fun env' h b hb => .tail _ (hfs ▸ List.mem_filterMap.mpr ⟨env', h, hb⟩)
  have efs : ∀ b, b ∈ fs → ∃ o, h₁.get? b = some o := fun b hb => by
    obtain ⟨_, o, ho, _⟩ := K'.frames.mem (hfs.symm ▸ hb)
    exact ⟨o, ho⟩
  have up : ∀ b o, h₁.get? b = some o → b ∉ fs → (hideAll s.heap (e :: fs)).get? b = some o := fun b o hb nm => hideAll_get _ (keep b o hb) fun hm => by
    rcases List.mem_cons.mp hm with z | z
    · rw [z, ne] at hb; cases hb
    · exact nm z
  have l' : L' ∉ (env :: outer).filterMap (·.frame) := fun hm => by
    obtain ⟨_, o, ho, _⟩ := K.frames.mem hm
    rw [kts_self F] at ho; cases ho
  have fsm : ∀ b, b ∈ fs → b = L' ∨ b ∈ (env :: outer).filterMap (·.frame) := fun b hb => mem_frames (env := envOf name scope L' a cd) rfl (hfs.symm ▸ hb)
  have hl : s.heap.FunFrames base (envOf name scope L' a cd :: env :: outer) := K'.frames.of_keeps fun b o hb _ => ⟨o, keep b o hb, rfl⟩
  have st : base.StaysIn (hideAll s.heap (e :: fs)) := fun b o hb => up b o (F.keep b o (K.stays b o hb)) fun hm => by
    rw [(K'.frames.mem (hfs.symm ▸ hm)).1] at hb; cases hb
  have dfs : dd ∉ e :: fs := fun hm => by
    rcases List.mem_cons.mp hm with z | z
    · subst z
      rw [he] at hod
      injection hod with hod
      obtain ⟨es, n, t, hx, _⟩ := hcd
      rw [← hod] at hx
      rw [hx] at hd
      cases hd
    · obtain ⟨o, ho⟩ := efs dd z
      rw [nd] at ho; cases ho
  refine first_x (Around.frames_deeper K.stack) rfl (funFrames_hide hl hin) (fun b o hb => of_hideAll _ hb) (hideAll_none _ (.head _)) he hd h1 hc hdd fun h' x u => hQ h' ⟨_, dd, od, st, fun b o hb nm => ?_, fun q hq => ?_, x, hideAll_get _ hod dfs, hcd, kts_none FG.keep (kts_none F.keep nd),
    kts_none FG.keep (kts_none F.keep ne), ?_, ?_⟩
  · refine up b o (F.keep b o (FG.keep b o hb)) fun hm => ?_
    rcases fsm b hm with z | z
    · rw [z] at hb
      have := FG.keep _ _ hb
      rw [kts_self F] at this; cases this
    · rcases mem_frames hf z with z | z
      · rw [z, kts_self FG] at hb; cases hb
      · exact nm z
  · have z := N q (hs q hq)
    refine up q.1 q.2 z.1 fun hm => ?_
    rcases fsm _ hm with y | y
    · exact z.2.1 y
    · obtain ⟨_, o, ho, _⟩ := K.frames.mem y
      rw [z.2.2] at ho; cases ho
  · exact ((Heap.UpToSlots.of_keeps FG.keep).trans (Heap.UpToSlots.of_keeps F.keep)).trans ((Heap.UpToSlots.of_keeps keep).trans u)
  · exact ((Heap.UpToSlots.of_keeps F.keep).trans ((Heap.UpToSlots.of_keeps keep).trans u)).ns FG.ns
/-- the same, from what the ledger says at the end -/
theorem XR.first2 (K : Below A base (env :: outer) g) (hf : env.frame = some L) (FG : Fr h₀ L g m) (F : Fr g L' s.heap m') {dd : Addr} {oe od : Obj} {vs : Array Value} (N : News g L' s.heap news') (he : (e, oe) ∈ news') (hod : (dd, od) ∈ news') (hs : ∀ p ∈ news, p ∈ news' ∧ p.1 ≠ e)
    (hc : oe.cls = .ref 34) (hdd : oe.dict = some dd) (hd : oe.data = .fields vs) (h1 : vs[1]? = some .none) (hcd : CodeDict od) (hk : scope.kind = .function)
    (hQ : ∀ h', XR base h₀ env outer L m news e h' → Q () { s with heap := h' }) : wpAny M (A.deeper (envOf name scope L' a cd)) (leaving (envOf name scope L' a cd) (.ref e)) Q E s := by
  have K' := K.push (name := name) (scope := scope) (a := a) (cd := cd) F hk
  have ne : g.get? e = none := (N _ he).2.2
  have nd : g.get? dd = none := (N _ hod).2.2
  have he1 : s.heap.get? e = some oe := (N _ he).1
  have hod1 : s.heap.get? dd = some od := (N _ hod).1
  generalize hfs : (envOf name scope L' a cd :: env :: outer).filterMap (·.frame) = fs
  have hin : ∀ env' ∈ (envOf name scope L' a cd :: env :: outer), ∀ b, env'.frame = some b → b ∈ e :: fs := fun env' h b hb => .tail _ (hfs ▸ List.mem_filterMap.mpr ⟨env', h, hb⟩)
  have fsm : ∀ b, b ∈ fs → b = L' ∨ b ∈ (env :: outer).filterMap (·.frame) := fun b hb => mem_frames (env := envOf name scope L' a cd) rfl (hfs.symm ▸ hb)
  have old : ∀ b, b ∈ (env :: outer).filterMap (·.frame) → ∃ o, g.get? b = some o := fun b hb => by
    obtain ⟨_, o, ho, _⟩ := K.frames.mem hb
    exact ⟨o, ho⟩
  have up : ∀ b o, s.heap.get? b = some o → b ≠ e → b ∉ fs → (hideAll s.heap (e :: fs)).get? b = some o := fun b o hb z nm => hideAll_get _ hb fun hm => by
    rcases List.mem_cons.mp hm with z' | z'
    · exact z z'
    · exact nm z'
  have hl : s.heap.FunFrames base (envOf name scope L' a cd :: env :: outer) := K'.frames
  have gne : ∀ b o, g.get? b = some o → b ≠ e := fun b o hb z => by rw [z, ne] at hb; cases hb
  have st : base.StaysIn (hideAll s.heap (e :: fs)) := fun b o hb => up b o (F.keep b o (K.stays b o hb)) (gne _ _ (K.stays b o hb)) fun hm => by
    rw [(K'.frames.mem (hfs.symm ▸ hm)).1] at hb; cases hb
  have dfs : dd ∉ e :: fs := fun hm => by
    rcases List.mem_cons.mp hm with z | z
    · subst z
      rw [he1] at hod1
      injection hod1 with hod1
      obtain ⟨es, n, t, hx, _⟩ := hcd
      rw [← hod1] at hx
      rw [hx] at hd
      cases hd
    · rcases fsm _ z with z | z
      · exact (N _ hod).2.1 z
      · obtain ⟨o, ho⟩ := old dd z
        rw [nd] at ho; cases ho
  refine first_x (Around.frames_deeper K.stack) rfl (funFrames_hide hl hin) (fun b o hb => of_hideAll _ hb) (hideAll_none _ (.head _)) he1 hd h1 hc hdd fun h' x u => hQ h' ⟨_, dd, od, st, fun b o hb nm => ?_, fun q hq => ?_, x, hideAll_get _ hod1 dfs, hcd, kts_none FG.keep nd,
    kts_none FG.keep ne, ?_, ?_⟩
  · refine up b o (F.keep b o (FG.keep b o hb)) (gne _ _ (FG.keep b o hb)) fun hm => ?_
    rcases fsm b hm with z | z
    · rw [z] at hb
      have := FG.keep _ _ hb
      rw [kts_self F] at this; cases this
    · rcases mem_frames hf z with z | z
      · rw [z, kts_self FG] at hb; cases hb
      · exact nm z
  · have z := N q (hs q hq).1
    refine up q.1 q.2 z.1 (hs q hq).2 fun hm => ?_
    rcases fsm _ hm with y | y
    · exact z.2.1 y
    · obtain ⟨o, ho⟩ := old _ y
      rw [z.2.2] at ho; cases ho
  · exact ((Heap.UpToSlots.of_keeps FG.keep).trans (Heap.UpToSlots.of_keeps F.keep)).trans u
  · exact ((Heap.UpToSlots.of_keeps F.keep).trans u).ns FG.ns
/-- what calling a def raises, whoever calls it -/
def ConX (k : Nat) (f : Addr) (vs : List Value) (news : List (Addr × Obj)) : Prop :=
  ∀ (w : World) (mean : ExcName → Option Value) (mg mb : Str → Option Value) (dp un : Nat) (gd : Option (List Code)) (cn : Str) (cs : Scope) (a : Addr) (ccd : Value) (cl : List (Str × Addr)) (outer : List Env) (A₀ : Around) (base h₀ : Heap) (L : Addr) (m : Str → Option Value) (s : Shared)
    (Q E : Value → Shared → Prop),
    Below A₀ base outer h₀ → Fr h₀ L s.heap m → (Mine.hd.heap_1 w.params).In h₀ → News h₀ L s.heap news → Top Mine.vw (looseW Mine.vw [Str.ofString "BasicError"]) mean mg mb h₀ → cs.kind = .function →
    dp + k < recursionLimit → un + 8 * k < cLine →
    (∀ e h' tk', XR base h₀ (envX cn cs L a ccd cl) outer L m news e h' → E (.ref e) { s with heap := h', toks := tk' }) →
    wpAny (model PySem.Challenge.rw_pf0009_01.row.prog w) (ktrTop dp un gd cn cs L a ccd cl outer) (call (.ref f) vs) Q E s
end
end

section
open PySem PySem.W PyProof.Rows
local macro_rules | `(tactic| k_mem) => `(tactic| first | assumption | exact List.Mem.tail _ (by assumption) | exact List.Mem.tail _ (List.Mem.tail _ (by assumption)) | exact List.Mem.tail _ (List.Mem.tail _ (List.Mem.tail _ (by assumption))))
theorem inst_e0 {h₀ h : Heap} {L x C : Addr} {vs : Array Value} {news : List (Addr × Obj)} {sl : Array (Option Value)} (N : News h₀ L h news) (h1 : (x, (⟨.ref C, none, .fields vs, sl⟩ : Obj)) ∈ news) :
    InstAt h x ⟨.ref C, none, .fields vs, sl⟩ C none := ⟨(N _ h1).1, rfl, rfl, trivial⟩
theorem inst_e1 {h₀ h : Heap} {L x C dx : Addr} {vs : Array Value} {news : List (Addr × Obj)} {od : Obj} {sl : Array (Option Value)} (N : News h₀ L h news) (h1 : (x, (⟨.ref C, some dx, .fields vs, sl⟩ : Obj)) ∈ news) (h2 : (dx, od) ∈ news) :
    InstAt h x ⟨.ref C, some dx, .fields vs, sl⟩ C (some od) := ⟨(N _ h1).1, rfl, rfl, (N _ h2).1⟩
theorem callWith_W {M : Model} {A : Around} {E : Value → Shared → Prop} {s : Shared} {env : Env} {pos : Pos} {q x : Addr} {i : String} {first : List Value} {e : Expr} {rest : List Expr} {Q : Value → Shared → Prop}
    (h : wpAny M A (spliced (backTo pos (starEach (e :: rest) env))) (fun vs s₁ => s₁.heap.get? q = some (wrapObj i x) ∧ wpAny M A (call (.ref q) (first ++ vs)) Q E s₁) E s)
    (he : starEach (e :: rest) env = (false, eval e env) :: starEach rest env := by rfl) (hplain : (backTo pos (starEach rest env)).any (·.1) = false := by rfl) :
    wpAny M A (callWith pos (.ref q) first (backTo pos (starEach (e :: rest) env)) []) Q E s := by
  rw [he] at h ⊢
  exact callWith_of (P := fun h => h.get? q = some (wrapObj i x)) (by show ((false || (backTo pos (starEach rest env)).any (·.1)) || false) = false; rw [hplain]; rfl)
    (fun h X => ⟨.machine, .inr (.inl rfl), (Looks.ld (part := none) X).andThen .now⟩) (PySem.Calls.evalArgs_plain h)
/-- what making BasicError('TM') hands back -/
theorem off_pre {news : List (Addr × Obj)} {a e : Addr} {o oe : Obj} (h : ∀ p ∈ news, p.1 < a) (hm : (e, oe) ∈ news) {pre : List (Addr × Obj)} (hp : ∀ p ∈ pre, p.1 ≠ e) : ∀ p ∈ (a, o) :: pre, p.1 ≠ e := fun p hq => by
  rcases List.mem_cons.mp hq with rfl | hq
  · exact Nat.ne_of_gt (h _ hm)
  · exact hp p hq
theorem off_post {news : List (Addr × Obj)} {a e : Addr} {o : Obj} (h : ∀ p ∈ news, p.1 < a) (hl : a < e) : ∀ p ∈ (a, o) :: news, p.1 ≠ e := fun p hq => by
  rcases List.mem_cons.mp hq with rfl | hq
  · exact Nat.ne_of_lt hl
  · exact Nat.ne_of_lt (Nat.lt_trans (h p hq) hl)
theorem off_nil {e : Addr} : ∀ p ∈ ([] : List (Addr × Obj)), p.1 ≠ e := fun _ h => nomatch h
theorem dict_lt {D e t T q o : Addr} {a1 a2 a3 a4 oe oe' : Obj} {news : List (Addr × Obj)} (h : ∀ p ∈ (T, a1) :: (q, a2) :: (o, a3) :: (e, oe) :: (t, a4) :: news, p.1 < D) :
    ∀ p ∈ (T, a1) :: (q, a2) :: (o, a3) :: (e, oe') :: (t, a4) :: news, p.1 ≠ D := fun p hp => by
  rcases List.mem_cons.mp hp with rfl | hp
  · exact Nat.ne_of_lt (h _ (.head _))
  rcases List.mem_cons.mp hp with rfl | hp
  · exact Nat.ne_of_lt (h _ (.tail _ (.head _)))
  rcases List.mem_cons.mp hp with rfl | hp
  · exact Nat.ne_of_lt (h _ (.tail _ (.tail _ (.head _))))
  rcases List.mem_cons.mp hp with rfl | hp
  · exact Nat.ne_of_lt (h (e, oe) (.tail _ (.tail _ (.tail _ (.head _)))))
  · exact Nat.ne_of_lt (h _ (.tail _ (.tail _ (.tail _ (.tail _ hp)))))
def MadeX (news : List (Addr × Obj)) (r : Value) (news' : List (Addr × Obj)) : Prop :=
  ∃ e dd T od, r = .ref e ∧ (e, (⟨.ref 34, some dd, .fields #[.ref T, .none, .none, .none, .bool false, .none], #[]⟩ : Obj)) ∈ news' ∧ (dd, od) ∈ news' ∧ CodeDict od ∧ ∀ p ∈ news, p ∈ news' ∧ p.1 ≠ e
local macro_rules | `(tactic| k_inst) => `(tactic| (refine' inst_e0 ?N ?h1; (case N => k_asm); (case h1 => (repeat (first | exact List.Mem.head _ | refine' List.Mem.tail _ ?_)))))
local macro_rules | `(tactic| k_inst) => `(tactic| (refine' inst_e1 ?N ?h1 ?h2; (case N => k_asm); (case h1 => (repeat (first | exact List.Mem.head _ | refine' List.Mem.tail _ ?_))); (case h2 => (repeat (first | exact List.Mem.head _ | refine' List.Mem.tail _ ?_)))))
set_option maxRecDepth 100000 in
set_option maxHeartbeats 8000000 in
theorem make_c (t : Tok) (news : List (Addr × Obj)) : Con 3 34 [.str (Str.ofString "TM") t] news (MadeX news) := by
  unfold Con
  k_fill
  k_with_none
  intro w mean mg mb dp un gd cn cs a ccd cl outer A₀ base h₀ L m s Q E B F X N T hk hd hu hret
  k_dflt (refine' call_own F X N ?hC ?hi ?hf ?_; (case hC => exact rfl); (case hi => k_is); (case hf => k_is))
  intro e t' h' F' N' l1 l2
  k_dflt (refine' ks_code_super ?k1 ?k2 ?k3 ?k4 ?k5 ?kA ?kF ?kK ?k6 ?k7 ?k8 ?k9 ?kB ?_ ?c1 ?c2 ?c3 ?c4; (case kA => exact rfl); (case kF => exact rfl); (case kK => assumption); (case k1 => k_asm); (case k2 => k_asm); (case k3 => k_asm); (case k4 => k_asm); (case k5 => k_asm); (case k6 => k_is); (case k7 => k_is); (case k8 => ktr_room); (case k9 => exact binds_K (by k_in) rfl (by k_is) rfl rfl rfl); (case kB => exact locs rfl); (case c1 => decide); (case c2 => exact rfl); (case c3 => exact rfl); (case c4 => exact rfl))
  intro g' L' h'' FG' F'' N'' B' X' T' l0
  clear F N F' N'
  (try dsimp only)
  (try k_fold)
  repeat walk1
  k_dflt (refine' ks_node ?a1 ?a2 ?a3 ?a4 ?a5 ?a6 ?a7 ?a8 ?a9 ?b1 ?b2 ?b3 ?b4 ?b5 ?b6 ?b7 ?b8 ?b9 ?c1 ?c2 ?c3 ?c4 ?_)
  (case a1 => k_asm)
  (case a2 => k_asm)
  (case a3 => k_asm)
  (case a4 => k_asm)
  (case a5 => k_dflt k_is)
  (case a6 => k_dflt rfl)
  (case a7 => k_dflt rfl)
  (case a8 => k_dflt first | k_inst | fail "x")
  (case a9 => k_dflt k_is)
  (case b1 => k_dflt rfl)
  (case b2 => k_dflt first | rfl | decide +kernel)
  (case b3 => k_dflt k_is)
  (case b4 => k_dflt k_is)
  (case b5 => k_dflt k_is)
  (case b6 => k_dflt k_is)
  (case b7 => decide)
  (case b8 => k_dflt rfl)
  (case b9 => k_dflt rfl)
  (case c1 => k_dflt rfl)
  (case c2 => k_dflt rfl)
  (case c3 => decide +kernel)
  (case c4 => k_dflt first | boot_by_name | rfl | kernel_rfl)
  intro so' h' F' N' l3
  k_dflt (refine' method_b ?k1 ?k2 ?k3 ?k4 ?k5 ?k6 ?k7 ?k8 ?k9 ?_; (case k1 => k_asm); (case k2 => k_asm); (case k3 => k_asm); (case k4 => (repeat (first | exact List.Mem.head _ | refine' List.Mem.tail _ ?_))); (case k5 => first | k_inst | fail "x"); (case k6 => k_is); (case k7 => ks_is); (case k8 => exact rfl); (case k9 => decide))
  intro mw h' F' N' l4
  have o2 := off_post (o := { cls := .type "tuple", data := .seq #[.str (Str.ofString "TM") t] }) l1 l2
  have o1 := off_pre (o := wrapObj "Exception.__init__" e) l4 (by (repeat (first | exact List.Mem.head _ | refine' List.Mem.tail _ ?_))) (off_pre (o := ks_superObj 34 e 34) l3 (.head _) off_nil)
  dsimp only
  refine callWith_W (i := "Exception.__init__") (x := e) ?_
  repeat (first | walk1 | (dsimp only; walk1))
  · exact (N' _ (.head _)).1
  (try dsimp only [List.nil_append])
  k_dflt (refine' init_b (pre := [_, _]) ?k1 ?k2 ?k3 ?k4 ?k5 ?k6 ?k7 ?k8 ?k9 ?k10 ?_; (case k1 => k_asm); (case k2 => k_asm); (case k3 => k_asm); (case k4 => (repeat (first | exact List.Mem.head _ | refine' List.Mem.tail _ ?_))); (case k5 => exact (exc_findings _).1); (case k6 => first | k_inst | fail "x"); (case k7 => exact rfl); (case k8 => exact rfl); (case k9 => exact o1); (case k10 => exact o2))
  intro h9 T9 F9 N9 l9
  (simp only [List.cons_append, List.nil_append] at N9 l9)
  (try dsimp only)
  have o3 := off_pre (o := { cls := .type "tuple", data := .seq #[.str (Str.ofString "TM") t] }) l9 (by (repeat (first | exact List.Mem.head _ | refine' List.Mem.tail _ ?_))) o1
  repeat (first | walk1 | (dsimp only; walk1))
  k_dflt (refine' set_first (pre := [_, _, _]) ?k1 ?k2 ?k3 ?k4 ?k5 ?k6 ?k7 ?k8 ?k9 ?k10 ?k11 ?k12 ?k13 ?_; (case k1 => k_asm); (case k2 => k_asm); (case k3 => k_asm); (case k4 => first | k_inst | fail "x"); (case k5 => k_is); (case k6 => exact rfl); (case k7 => exact fun _ => rfl); (case k8 => k_is); (case k9 => k_is); (case k10 => exact rfl); (case k11 => exact rfl); (case k12 => exact o3); (case k13 => exact o2))
  intro hA dd FA NA lA
  (simp only [List.cons_append, List.nil_append] at NA lA)
  (try dsimp only)
  repeat (first | walk1 | (dsimp only; walk1))
  have o4 : ∀ p ∈ ([] : List (Addr × Obj)), p.1 ≠ dd := off_nil
  k_dflt (refine' set_more (pre := []) (dx := dd) ?k1 ?k2 ?k3 ?k4 ?k5 ?k6 ?k7 ?k8 ?k9 ?k10 ?kd ?kl ?kz ?k12 ?k13 ?_; (case k1 => k_asm); (case k2 => k_asm); (case k3 => k_asm); (case k4 => first | k_inst | fail "x"); (case k5 => k_is); (case k6 => exact rfl); (case k7 => exact fun _ => rfl); (case k8 => k_is); (case k9 => k_is); (case k10 => exact rfl); (case kd => exact rfl); (case kl => exact rfl); (case kz => exact Nat.le_of_ble_eq_true rfl); (case k12 => exact off_nil); (case k13 => exact dict_lt lA))
  intro hB FB NB
  (try simp only [List.cons_append, List.nil_append] at NB)
  (try dsimp only)
  repeat (first | walk1 | (dsimp only; walk1))
  refine hret _ _ _ _ (by k_asm) (by k_asm) ⟨e, dd, T9, _, rfl, by (repeat (first | exact List.Mem.head _ | refine' List.Mem.tail _ ?_)), .head _, ⟨_, _, _, rfl, rfl⟩, fun p hp => ⟨?_, ?_⟩⟩
  · exact .tail _ (.tail _ (.tail _ (.tail _ (.tail _ (.tail _ hp)))))
  · exact Nat.ne_of_lt (Nat.lt_trans (l1 p hp) l2)
end

section
open PySem PySem.W PyProof.Rows
local macro_rules | `(tactic| k_mem) => `(tactic| first | assumption | exact List.Mem.tail _ (by assumption) | exact List.Mem.tail _ (List.Mem.tail _ (by assumption)) | exact List.Mem.tail _ (List.Mem.tail _ (List.Mem.tail _ (by assumption))))
theorem exc_at {w : World} {h : Heap} (X : (Mine.hd.heap_1 w.params).In h) : ExcAt h 34 := by
  obtain ⟨nm, q', N, bs, bm, hdct, sn, sub, ab, col, dd, k0, k1, k2, k3, k5, newId, hC, hb, _⟩ := kts_cls X (exc_findings w).1
  exact ⟨nm, q', N, bs, bm, hdct, sn, sub, ab, col, dd, k0, k1, k2, k3, k5, newId, hC, hb⟩
set_option maxRecDepth 100000 in
set_option maxHeartbeats 8000000 in
theorem told_x (x : Str) (t : Tok) (news : List (Addr × Obj)) : ConX 6 276 [.str x t] news := by
  unfold ConX
  k_fill
  k_with_none
  k_with "exec Raise some none" => (k_here; k_dflt (refine Raise_own rfl ?_))
  k_with "call ref" => (k_here; (with_reducible show wpAny _ _ (call (Value.ref 34) _) _ _ _); k_dflt (refine' Con.use ?k1 ?k2 ?k3 ?k4 ?k5 ?kK (make_c _ _) ?kd ?ku ?_; (case k1 => k_asm); (case k2 => k_asm); (case k3 => k_asm); (case k4 => k_asm); (case k5 => k_asm); (case kK => first | exact rfl | assumption); (case kd => ktr_room); (case ku => ktr_units); intro r9 n9 h9 tk9 F9 N9 R9; obtain ⟨e9, d9, t9, o9, e8, m9, m8, c9, s9⟩ := R9; subst e8;(try dsimp only); (try k_fold)))
  intro w mean mg mb dp un gd cn cs a ccd cl outer A₀ base h₀ L m s Q E B F X N T hk hd hu hret
  refine wpAny_call ?_
  k_dflt ktr_enter
  repeat ((fail_if_success (with_reducible show wpAny _ _ (exec (Stmt.Raise _ _ _) _) _ _ _)); first | walk1 | (dsimp only; walk1))
  k_dflt (refine Raise_own (C := 34) rfl ?_)
  repeat (first | walk1 | (dsimp only; walk1))
  (with_reducible rename Below _ _ (_ :: _) _ => B1)
  rename Fr h₀ _ _ _ => FG1
  refine ⟨e9, d9, t9, rfl, exc_at (Frag.In.keeps (by assumption) F9.keep), (N9 _ m9).1, ?_⟩
  k_dflt (refine XR.first2 B1 rfl FG1 F9 N9 m9 m8 s9 rfl rfl rfl rfl c9 rfl ?_)
  intro hE RE
  exact hret _ _ _ RE
end

section
open PySem PySem.W PyProof.Rows
local macro_rules | `(tactic| k_mem) => `(tactic| first | assumption | exact List.Mem.tail _ (by assumption) | exact List.Mem.tail _ (List.Mem.tail _ (by assumption)) | exact List.Mem.tail _ (List.Mem.tail _ (List.Mem.tail _ (by assumption))))
theorem ConX.use {k : Nat} {f : Addr} {vs : List Value} {news : List (Addr × Obj)} {w : World} {mean : ExcName → Option Value} {mg mb : Str → Option Value} {dp un : Nat} {gd : Option (List Code)} {cn : Str} {cs : Scope} {a : Addr} {ccd : Value} {cl : List (Str × Addr)} {outer : List Env} {A₀ : Around} {base h₀ : Heap} {L : Addr} {m : Str → Option Value} {s : Shared}
    {Q E : Value → Shared → Prop} (B : Below A₀ base outer h₀) (F : Fr h₀ L s.heap m) (X : (Mine.hd.heap_1 w.params).In h₀) (N : News h₀ L s.heap news) (T : Top Mine.vw (looseW Mine.vw [Str.ofString "BasicError"]) mean mg mb h₀) (hk : cs.kind = .function)
    (C : ConX k f vs news) (hd : dp + k < recursionLimit) (hu : un + 8 * k < cLine)
    (raised : ∀ e h' tk', XR base h₀ (envX cn cs L a ccd cl) outer L m news e h' → E (.ref e) { s with heap := h', toks := tk' }) :
    wpAny (model PySem.Challenge.rw_pf0009_01.row.prog w) (ktrTop dp un gd cn cs L a ccd cl outer) (call (.ref f) vs) Q E s :=
  C _ _ _ _ _ _ _ _ _ _ _ _ _ _ _ _ _ _ _ _ _ B F X N T hk hd hu raised
/-- the pairs that are refused -/
def BadPair (news : List (Addr × Obj)) (v1 v2 : Value) : Prop := (∃ x t, v1 = .str x t) ∨ (∃ d x t, NumIn news v1 d ∧ v2 = .str x t)
set_option maxRecDepth 100000 in
set_option maxHeartbeats 8000000 in
theorem min_x (wv : Value) (al : Addr) (kl : Nat) (v1 v2 : Value) (news : List (Addr × Obj)) (hb : BadPair news v1 v2) (hm : (al, ({ cls := .type "list", data := .seq #[v1, v2] kl } : Obj)) ∈ news) : ConX 8 283 [wv, .ref al] news := by
  unfold ConX
  k_fill
  k_with_none
  k_with "call ref" => (k_here; (with_reducible show wpAny _ _ (call (Value.ref 276) _) _ _ _); k_dflt (refine' Con.use ?k1 ?k2 ?k3 ?k4 ?k5 ?kK (told_c _ _ _ ?p0) ?kd ?ku ?_; (case k1 => k_asm); (case k2 => k_asm); (case k3 => k_asm); (case k4 => k_asm); (case k5 => k_asm); (case kK => first | exact rfl | assumption); (case p0 => first | assumption | exact NumIn.mono (by assumption) (fun p hp => .tail _ hp) | exact NumIn.mono (by assumption) (fun p hp => .tail _ (.tail _ hp))); (case kd => ktr_room); (case ku => ktr_units); intro r9 n9 h9 tk9 F9 N9 R9; obtain ⟨e9, e8⟩ := R9; subst e9; subst e8;(try dsimp only); (try k_fold)))
  k_with "call ref" => (k_here; (with_reducible show wpAny _ _ (call (Value.ref 276) [Value.str _ _]) _ _ _); k_dflt (refine' ConX.use ?k1 ?k2 ?k3 ?k4 ?k5 ?kK (told_x _ _ _) ?kd ?ku ?_; (case k1 => k_asm); (case k2 => k_asm); (case k3 => k_asm); (case k4 => k_asm); (case k5 => k_asm); (case kK => first | exact rfl | assumption); (case kd => ktr_room); (case ku => ktr_units); intro e9 h9 tk9 R9; (try dsimp only); (try k_fold)))
  intro w mean mg mb dp un gd cn cs a ccd cl outer A₀ base h₀ L m s Q E B F X N T hk hd hu hret
  replace N := news_front N hm
  rcases hb with ⟨x, t, rfl⟩ | ⟨d, x, t, hR, rfl⟩
  · refine wpAny_call ?_
    k_dflt ktr_enter
    repeat (first | walk1 | (dsimp only; walk1))
    (with_reducible rename Below _ _ (_ :: _) _ => B1)
    rename Fr h₀ _ _ _ => FG1
    k_dflt (refine XR.out B1.stack rfl FG1 R9 (fun p hp => .tail _ hp) ?_)
    intro hE RE
    exact hret _ _ _ RE
  · refine wpAny_call ?_
    k_dflt ktr_enter
    repeat (first | walk1 | (dsimp only; walk1))
    (with_reducible rename Below _ _ (_ :: _) _ => B1)
    rename Fr h₀ _ _ _ => FG1
    k_dflt (refine XR.out B1.stack rfl FG1 R9 (fun p hp => .tail _ hp) ?_)
    intro hE RE
    exact hret _ _ _ RE
set_option maxRecDepth 100000 in
set_option maxHeartbeats 8000000 in
theorem max_x (wv : Value) (al : Addr) (kl : Nat) (v1 v2 : Value) (news : List (Addr × Obj)) (hb : BadPair news v1 v2) (hm : (al, ({ cls := .type "list", data := .seq #[v1, v2] kl } : Obj)) ∈ news) : ConX 8 290 [wv, .ref al] news := by
  unfold ConX
  k_fill
  k_with_none
  k_with "call ref" => (k_here; (with_reducible show wpAny _ _ (call (Value.ref 276) _) _ _ _); k_dflt (refine' Con.use ?k1 ?k2 ?k3 ?k4 ?k5 ?kK (told_c _ _ _ ?p0) ?kd ?ku ?_; (case k1 => k_asm); (case k2 => k_asm); (case k3 => k_asm); (case k4 => k_asm); (case k5 => k_asm); (case kK => first | exact rfl | assumption); (case p0 => first | assumption | exact NumIn.mono (by assumption) (fun p hp => .tail _ hp) | exact NumIn.mono (by assumption) (fun p hp => .tail _ (.tail _ hp))); (case kd => ktr_room); (case ku => ktr_units); intro r9 n9 h9 tk9 F9 N9 R9; obtain ⟨e9, e8⟩ := R9; subst e9; subst e8;(try dsimp only); (try k_fold)))
  k_with "call ref" => (k_here; (with_reducible show wpAny _ _ (call (Value.ref 276) [Value.str _ _]) _ _ _); k_dflt (refine' ConX.use ?k1 ?k2 ?k3 ?k4 ?k5 ?kK (told_x _ _ _) ?kd ?ku ?_; (case k1 => k_asm); (case k2 => k_asm); (case k3 => k_asm); (case k4 => k_asm); (case k5 => k_asm); (case kK => first | exact rfl | assumption); (case kd => ktr_room); (case ku => ktr_units); intro e9 h9 tk9 R9; (try dsimp only); (try k_fold)))
  intro w mean mg mb dp un gd cn cs a ccd cl outer A₀ base h₀ L m s Q E B F X N T hk hd hu hret
  replace N := news_front N hm
  rcases hb with ⟨x, t, rfl⟩ | ⟨d, x, t, hR, rfl⟩
  · refine wpAny_call ?_
    k_dflt ktr_enter
    repeat (first | walk1 | (dsimp only; walk1))
    (with_reducible rename Below _ _ (_ :: _) _ => B1)
    rename Fr h₀ _ _ _ => FG1
    k_dflt (refine XR.out B1.stack rfl FG1 R9 (fun p hp => .tail _ hp) ?_)
    intro hE RE
    exact hret _ _ _ RE
  · refine wpAny_call ?_
    k_dflt ktr_enter
    repeat (first | walk1 | (dsimp only; walk1))
    (with_reducible rename Below _ _ (_ :: _) _ => B1)
    rename Fr h₀ _ _ _ => FG1
    k_dflt (refine XR.out B1.stack rfl FG1 R9 (fun p hp => .tail _ hp) ?_)
    intro hE RE
    exact hret _ _ _ RE
end

section
open PySem PySem.W PySem.Calls PyProof.Rows PySem.Spec
/-- like Con, for a caller that stands at the bottom -/
def Con0 (k : Nat) (f : Addr) (vs : List Value) (news : List (Addr × Obj)) (R : Value → List (Addr × Obj) → Prop) : Prop :=
  ∀ (w : World) (mean : ExcName → Option Value) (mg mb : Str → Option Value) (dp un : Nat) (gd : Option (List Code)) (cn : Str) (cs : Scope) (a : Addr) (ccd : Value) (cl : List (Str × Addr)) (A₀ : Around) (base h₀ : Heap) (L : Addr) (m : Str → Option Value) (s : Shared)
    (Q E : Value → Shared → Prop),
    Below A₀ base [] h₀ → Fr h₀ L s.heap m → (Mine.hd.heap_1 w.params).In h₀ → News h₀ L s.heap news → Top Mine.vw (looseW Mine.vw [Str.ofString "BasicError"]) mean mg mb h₀ → cs.kind = .function →
    dp + k < recursionLimit → un + 8 * k < cLine →
    (∀ r news' h' tk', Fr h₀ L h' m → News h₀ L h' news' → R r news' → Q r { s with heap := h', toks := tk' }) →
    wpAny (model PySem.Challenge.rw_pf0009_01.row.prog w) (ktrTop dp un gd cn cs L a ccd cl []) (call (.ref f) vs) Q E s
theorem Con0.use {k : Nat} {f : Addr} {vs : List Value} {news : List (Addr × Obj)} {R : Value → List (Addr × Obj) → Prop} {w : World} {mean : ExcName → Option Value} {mg mb : Str → Option Value} {dp un : Nat} {gd : Option (List Code)} {cn : Str} {cs : Scope} {a : Addr} {ccd : Value} {cl : List (Str × Addr)} {A₀ : Around} {base h₀ : Heap} {L : Addr} {m : Str → Option Value} {s : Shared}
    {Q E : Value → Shared → Prop} (B : Below A₀ base [] h₀) (F : Fr h₀ L s.heap m) (X : (Mine.hd.heap_1 w.params).In h₀) (N : News h₀ L s.heap news) (T : Top Mine.vw (looseW Mine.vw [Str.ofString "BasicError"]) mean mg mb h₀) (hk : cs.kind = .function)
    (C : Con0 k f vs news R) (hd : dp + k < recursionLimit) (hu : un + 8 * k < cLine)
    (ret : ∀ r news' h' tk', Fr h₀ L h' m → News h₀ L h' news' → R r news' → Q r { s with heap := h', toks := tk' }) :
    wpAny (model PySem.Challenge.rw_pf0009_01.row.prog w) (ktrTop dp un gd cn cs L a ccd cl []) (call (.ref f) vs) Q E s :=
  C _ _ _ _ _ _ _ _ _ _ _ _ _ _ _ _ _ _ _ _ B F X N T hk hd hu ret
/-- back at the bottom frame, whose own object may have other slots -/
theorem ret0 {h₀ g g' h : Heap} {L L' : Addr} {m m' : Str → Option Value} {news' : List (Addr × Obj)} (FG : Fr h₀ L g m) (T : KtsTurn [L] g g') (F' : Fr g' L' h m') (N' : News g' L' h news') : Fr h₀ L h m ∧ News h₀ L h news' := by
  obtain ⟨oL, es, ep, hL, hLd, hLk, hLf⟩ := FG.ns
  obtain ⟨sl, hs⟩ := T.up hL
  have nL : h₀.get? L = none := kts_self FG
  refine ⟨⟨⟨_, es, ep, F'.keep _ _ hs, hLd, hLk, hLf⟩, fun b o e => F'.keep b o (T.other b o (FG.keep b o e) fun q => ?_), FG.above⟩, fun p hp => ⟨(N' p hp).1, fun q => ?_, ?_⟩⟩
  · rw [List.mem_singleton.mp q, nL] at e; cases e
  · have z := (N' p hp).2.2
    rw [q, hs] at z; cases z
  · cases q : h₀.get? p.1 with
    | none => rfl
    | some o =>
      obtain ⟨sl', hs'⟩ := T.up (FG.keep _ _ q)
      have z := (N' p hp).2.2
      rw [hs'] at z; cases z
section
variable {prog : Program} {w : World} {A₀ A : Around} {s : Shared} {base h₀ : Heap} {L : Addr} {m : Str → Option Value} {env : Env} {news : List (Addr × Obj)} {K : Frag} {p : Program} {loose : List Str} {mean : ExcName → Option Value} {mg mb : Str → Option Value}
  {R : Result → Shared → Prop} {name qual : Str} {params : Arguments} {body : List Stmt} {scope : Scope} {dV kV doc pm cdv ct oc : Value} {an od : Option Addr} {osl : Array (Option Value)} {f : Addr} {args : Args} {binds : List (Str × Value)}
/-- a def entered from the bottom frame, in which an exception is caught -/
theorem code_try0 (B : Below A₀ base [] h₀) (F : Fr h₀ L s.heap m) (X₀ : K.In h₀) (N : News h₀ L s.heap news) (T : Top p loose mean mg mb h₀) (hA : A.frames = some [env]) (hf : env.frame = some L) (hke : env.scope.kind = .function)
    (ho : K.lookup f = some ⟨oc, od, .func (fnOf name qual params body scope dV kV doc pm an cdv ct), osl⟩) (hcd : codeIn K cdv qual = true) (hroom : A.depth < recursionLimit)
    (hbind : BindsTo s (fnOf name qual params body scope dV kV doc pm an cdv ct) args binds) (hloc : ∀ y ∈ binds, scope.names.lookup y.1 = some .local)
    (h : ∀ g L' h₁, Fr h₀ L g m → Fr g L' h₁ (fun y => binds.reverse.lookup y) → News g L' h₁ news → Below A base [env] g → K.In g → Top p loose mean mg mb g →
      wpAny (model prog w) (A.deeper (envOf qual scope L' f cdv)) (execs body (envOf qual scope L' f cdv))
        (fun fl s' => LeaveS0 [L] h₀ L m g R (match fl with | .ret v => v | _ => .none) s')
        (fun e s' => wpAny (model prog w) (A.deeper (envOf qual scope L' f cdv)) (leaving (envOf qual scope L' f cdv) e) (fun _ s'' => R (.error e) s'') (fun e' s'' => R (.error e') s'') s')
        { s with heap := h₁, toks := s.toks + binds.length })
    (hco : scope.isCoroutine = false) (hgen : scope.isGenerator = false) (hk : scope.kind = .function)
    (hcell : ∀ x ∈ scope.names, x.2 ≠ .cell) : codeAny (model prog w) A (.call (.ref f) args) R s := by
  have X := X₀.keeps F.keep
  obtain ⟨FG, BG, st, _⟩ := groundX (R := R) B F N hA hf hke
  refine codeAny_call_def (fd := fnOf name qual params body scope dV kV doc pm an cdv ct) (body := body) (binds := binds) hroom (X _ _ ho) rfl (T.nolimit.keeps F.keep) (codeRec_of X hcd) rfl hbind hcell hloc (fun h₁ hns hk₁ => ?_) hco hgen hk
  refine wpAny_mono (h _ s.heap.objs.size h₁ FG ⟨hns, fun b o e => hk₁ b o (of_hideAll _ e), Nat.le_of_eq (hideAll_size _ _)⟩
    (fun p hp => ⟨hk₁ _ _ (N p hp).1, Nat.ne_of_lt (Heap.lt_size (N p hp).1), hideAll_none _ (List.mem_map_of_mem hp)⟩) BG (X₀.keeps st) (T.keeps st)) (fun fl s' hl => ?_) fun _ _ y => y
  obtain ⟨g', L', m', news', T', F', N', k⟩ := hl
  obtain ⟨r1, r2⟩ := ret0 FG T' F' N'
  exact k r1 r2
end
section
variable {A₀ : Around} {base g B h : Heap} {outer : List Env} {L : Addr} {m : Str → Option Value}
theorem ground_x (K : Below A₀ base outer g) (hab : g.objs.size ≤ L) (hBG : ∀ b o, g.get? b = some o → b ∉ outer.filterMap (·.frame) → B.get? b = some o) (hBh : B.StaysIn h) (hsm : g.UpToSlots h) (hns : h.Ns L m) :
    ∃ g', KtsTurn (outer.filterMap (·.frame)) g g' ∧ Fr g' L h m ∧ Below A₀ base outer g' := by
  obtain ⟨T, S⟩ := kts_turn_at (h := h) (fs := outer.filterMap (·.frame)) (g := g)
    (fun b hb => by
      obtain ⟨_, o, ho, _⟩ := K.frames.mem hb
      exact ⟨o, ho⟩)
    (fun b o e nm => hBh b o (hBG b o e nm))
    (fun b o e hm => by
      obtain ⟨_, o', ho', hd⟩ := K.frames.mem hm
      rw [e] at ho'
      cases ho'
      exact hsm b o e hd)
  refine ⟨_, T, ⟨hns, S, by rw [T.size]; exact hab⟩, ⟨K.stack, fun b o e => T.other b o (K.stays b o e) fun hm => ?_, K.frames.of_keeps fun b o e _ => ?_⟩⟩
  · rw [(K.frames.mem hm).1] at e; cases e
  · obtain ⟨sl, hs⟩ := T.up e
    exact ⟨_, hs, rfl⟩
end
end

section
open PySem PySem.W PySem.Calls PyProof.Rows PySem.Spec
section
variable {prog : Program} {w : World} {A₀ : Around} {E : Value → Shared → Prop} {s' : Shared} {base g : Heap} {outer : List Env} {L a e : Addr} {m : Str → Option Value} {name : Str} {scope : Scope} {cd : Value}
  {n : Str} {b₀ : Stmt} {suite : List Stmt} {pos np : Pos} {rest : List ExceptHandler} {Q : Flow → Shared → Prop} {news : List (Addr × Obj)} {KF : Frag}
  {p : Program} {loose : List Str} {mean : ExcName → Option Value} {mg mb : Str → Option Value} {x : Str}
/-- the exception caught by its own class, its name bound -/
theorem caught_x (R : XR base g (envOf name scope L a cd) outer L m news e s'.heap) (K : Below A₀ base outer g) (hab : g.objs.size ≤ L) (hng : ∀ z ∈ news, g.get? z.1 = none)
    (keepX : ∀ g', KtsTurn (outer.filterMap (·.frame)) g g' → Below A₀ base outer g' → KF.In g' ∧ Top p loose mean mg mb g')
    (ex : nsIn KF mainGlobals x = some (some (.ref 34))) (q : ktsIn KF 34 "BaseException" = true)
    (k : ∀ h' g' oe vs dd od tk, KtsTurn (outer.filterMap (·.frame)) g g' → Fr g' L h' (fun y => if y = n then some (.ref e) else m y) → News g' L h' ((e, oe) :: (dd, od) :: news) → oe.cls = .ref 34 → oe.dict = some dd → oe.data = .fields vs → CodeDict od →
        Below A₀ base outer g' → KF.In g' → Top p loose mean mg mb g' →
      wpAny (model prog w) ((A₀.deeper (envOf name scope L a cd)).mark (some (.ref e))) (execs (b₀ :: suite) (envOf name scope L a cd))
        (fun f s₄ => wpAny (model prog w) (A₀.deeper (envOf name scope L a cd)) (do bindName (envOf name scope L a cd) n .none; unbindBehindTheSuite (envOf name scope L a cd) n pos) (fun _ s₅ => Q f s₅) E s₄)
        (AsSuiteRaised (model prog w) ((A₀.deeper (envOf name scope L a cd)).mark (some (.ref e))) (envOf name scope L a cd) n pos (notedBy (model prog w) ((A₀.deeper (envOf name scope L a cd)).mark (some (.ref e))) (envOf name scope L a cd) (cameBackBy (model prog w) (A₀.deeper (envOf name scope L a cd)) (envOf name scope L a cd) E)))
        { s' with heap := h', toks := tk })
    (hk : scope.kind = .function := by rfl) (hlo : (envOf name scope L a cd).kindOf n = some .local := by rfl) (hx : (envOf name scope L a cd).kindOf x = some .globalImplicit := by rfl) (hd : (x == ("__debug__" : Str)) = false := by decide) :
    wpAny (model prog w) (A₀.deeper (envOf name scope L a cd)) (noteFrame (.ref e) (envOf name scope L a cd))
      (fun _ s₂ => wpAny (model prog w) (A₀.deeper (envOf name scope L a cd)) (setFlight (.ref e) none) (fun _ s₃ =>
        wpAny (model prog w) (A₀.deeper (envOf name scope L a cd)) (handleBy (.ref e) (envOf name scope L a cd) (.ExceptHandler (some (.Name x np)) (some n) (b₀ :: suite) pos :: rest)) Q E s₃) E s₂) E s' := by
  obtain ⟨B, dd, od, r1, r2, r3, r4, r5, r6, r7, r8, r9, r10⟩ := R
  have hL : B.get? L = none := by
    obtain ⟨_, ⟨L', _, hf, hn', _⟩, _⟩ := r4.2.2.1
    obtain rfl : L = L' := Option.some.inj hf
    exact hn'
  refine look_x (Around.frames_deeper K.stack) rfl r4 fun h₄ x₄ u₄ => ?_
  refine land_x x₄ fun h₅ x₅ u₅ => ?_
  have hs₅ := (r9.trans u₄).trans u₅
  have hn₅ : h₅.Ns L m := (u₄.trans u₅).ns r10
  obtain ⟨g₅, T₅, F₅, K₅⟩ := ground_x K hab r2 x₅.1 hs₅ hn₅
  obtain ⟨X₅, P₅⟩ := keepX g₅ T₅ K₅
  obtain ⟨nm, q', N, bs, bm, hdct, sn, sub, ab, col, dd', k0, k1, k2, k3, k5, newId, hC, hbase, hbT⟩ := kts_cls X₅ q
  have hC₅ := F₅.keep _ _ hC
  obtain ⟨oe₅, vs₅, T5, oT5, ts5, e51, e52, _⟩ := x₅.2.2.2
  refine wpAny_handleBy_cons (codeAny_handlers_test (name_K F₅ X₅ (topRead_of P₅) ex ?_ hk hx hd)) (by intro q; cases q)
  refine wpAny_excMatches_sub_self hC₅ e51 e52 hbase (codeAny_handlers_suite_as ?_)
  refine land_x x₅ fun h₆ x₆ u₆ => ?_
  have hs₆ := hs₅.trans u₆
  have hn₆ : h₆.Ns L m := u₆.ns hn₅
  obtain ⟨g₆, T₆, F₆, K₆⟩ := ground_x K hab r2 x₆.1 hs₆ hn₆
  obtain ⟨X₆, P₆⟩ := keepX g₆ T₆ K₆
  obtain ⟨oe, vs, T6, oT6, ts6, e1, e2, e3, e4, _⟩ := x₆.2.2.2
  have Nl : News g₆ L h₆ ((dd, od) :: news) := fun z hz => by
    rcases List.mem_cons.mp hz with rfl | hz
    · refine ⟨x₆.1 _ _ r5, fun y => ?_, T₆.none_ _ r7⟩
      have y' : dd = L := y
      rw [y', hL] at r5; cases r5
    · refine ⟨x₆.1 _ _ (r3 z hz), fun y => ?_, T₆.none_ _ (hng z hz)⟩
      have t := r3 z hz
      rw [y, hL] at t; cases t
  have N₆ : News g₆ L h₆ ((e, oe) :: (dd, od) :: news) := News.more F₆ Nl e1 (fun es n q => by rw [e4] at q; cases q) (T₆.none_ _ r8)
  refine stN F₆ N₆ (fun h₇ F₇ N₇ => ?_) hk hlo
  exact k h₇ g₆ oe vs dd od _ T₆ F₇ N₇ e2 e3 e4 r6 K₆ X₆ P₆
end
end

section
open PySem PySem.W PyProof.Rows
local macro_rules | `(tactic| k_mem) => `(tactic| first | assumption | exact List.Mem.tail _ (by assumption) | exact List.Mem.tail _ (List.Mem.tail _ (by assumption)) | exact List.Mem.tail _ (List.Mem.tail _ (List.Mem.tail _ (by assumption))))
set_option maxRecDepth 100000 in
set_option maxHeartbeats 8000000 in
theorem refused_min (wv : Value) (al : Addr) (kl : Nat) (v1 v2 : Value) (news : List (Addr × Obj)) (hb : BadPair news v1 v2) (hm : (al, ({ cls := .type "list", data := .seq #[v1, v2] kl } : Obj)) ∈ news) :
    Con0 10 375 [.ref 283, wv, .ref al] news (fun r news' => r = .bool true ∧ news = news') := by
  unfold Con0
  k_fill
  k_with_none
  k_with "call ref" => (k_here; (with_reducible show wpAny _ _ (call (Value.ref 283) _) _ _ _); k_dflt (refine' ConX.use ?k1 ?k2 ?k3 ?k4 ?k5 ?kK (min_x _ _ _ _ _ _ ?p0 ?p1) ?kd ?ku ?_; (case k1 => k_asm); (case k2 => k_asm); (case k3 => k_asm); (case k4 => k_asm); (case k5 => k_asm); (case kK => first | exact rfl | assumption); (case p0 => assumption); (case p1 => assumption); (case kd => ktr_room); (case ku => ktr_units); intro e9 h9 tk9 R9; (try dsimp only); (try k_fold)))
  intro w mean mg mb dp un gd cn cs a ccd cl A₀ base h₀ L m s Q E B F X N T hk hd hu hret
  refine wpAny_call ?_
  k_dflt (refine' code_try0 ?k1 ?k2 ?k3 ?k4 ?k5 ?kA ?kF ?kK ?k6 ?k7 ?k8 ?k9 ?kB ?_ ?c2 ?c3 ?c4 ?c5; (case kA => exact rfl); (case kF => exact rfl); (case kK => assumption); (case k1 => k_asm); (case k2 => k_asm); (case k3 => k_asm); (case k4 => k_asm); (case k5 => k_asm); (case k6 => k_is); (case k7 => k_is); (case k8 => ktr_room); (case k9 => exact BindsTo.of_eq rfl); (case c5 => decide); (case kB => exact locs rfl); (case c2 => exact rfl); (case c3 => exact rfl); (case c4 => exact rfl))
  intro g' L' h' FG' F' N' B' X' T'
  (try dsimp only)
  k_fold
  repeat (first | walk1 | (dsimp only; walk1))
  (try k_unfold)
  (try dsimp only)
  have st : ∀ g'', KtsTurn [L] g' g'' → ∀ b o, h₀.get? b = some o → g''.get? b = some o := fun g'' T'' b o e => T''.other b o (FG'.keep b o e) fun q => by
    rw [List.mem_singleton.mp q, kts_self FG'] at e; cases e
  k_dflt (refine caught_x (KF := Mine.hd.heap_1 w.params) (mean := mean) (mg := mg) (mb := mb) R9 B' F'.above (fun z hz => (N' z hz).2.2) (fun g'' T'' _ => ⟨X.keeps (st g'' T''), T.keeps (st g'' T'')⟩) (by k_is) (exc_findings w).1 ?_)
  intro hC gC oe vs dd od tkC TC FC NC c1 c2 c3 c4 BC XC PC
  clear N' F' B' X' T' R9
  (try dsimp only)
  k_fold
  repeat (first | walk1 | (dsimp only; walk1))
  obtain ⟨es, n, tc, rfl, hgc⟩ := c4
  obtain ⟨oc, odi, oda, osl⟩ := oe
  dsimp only at c1 c2 c3
  subst c1 c2 c3
  have hfo : findObj (Mine.hd.heap_1 w.params) 34 (some (dictOf es n)) (Str.ofString "code") = some (.value (.str (Str.ofString "TM") tc)) := by
    refine' findObj_own ?hh ?ha ?hn hgc
    (case hh => k_is)
    (case ha => k_is)
    (case hn => k_is)
  k_dflt (refine exc_get (Frag.In.keeps XC FC.keep) (exc_findings w).1 (inst_e1 NC (.head _) (.tail _ (.head _))) (exc_findings w).2.1 (exc_findings w).2.2 hfo rfl ?_)
  repeat (first | walk1 | (dsimp only; walk1))
  exact hret _ news _ _ (by assumption) (news_sub (by assumption) (fun p hp => .tail _ (.tail _ hp))) ⟨congrArg Value.bool (by decide +kernel), rfl⟩
set_option maxRecDepth 100000 in
set_option maxHeartbeats 8000000 in
theorem refused_max (wv : Value) (al : Addr) (kl : Nat) (v1 v2 : Value) (news : List (Addr × Obj)) (hb : BadPair news v1 v2) (hm : (al, ({ cls := .type "list", data := .seq #[v1, v2] kl } : Obj)) ∈ news) :
    Con0 10 375 [.ref 290, wv, .ref al] news (fun r news' => r = .bool true ∧ news = news') := by
  unfold Con0
  k_fill
  k_with_none
  k_with "call ref" => (k_here; (with_reducible show wpAny _ _ (call (Value.ref 283) _) _ _ _); k_dflt (refine' ConX.use ?k1 ?k2 ?k3 ?k4 ?k5 ?kK (min_x _ _ _ _ _ _ ?p0 ?p1) ?kd ?ku ?_; (case k1 => k_asm); (case k2 => k_asm); (case k3 => k_asm); (case k4 => k_asm); (case k5 => k_asm); (case kK => first | exact rfl | assumption); (case p0 => assumption); (case p1 => assumption); (case kd => ktr_room); (case ku => ktr_units); intro e9 h9 tk9 R9; (try dsimp only); (try k_fold)))
  k_with "call ref" => (k_here; (with_reducible show wpAny _ _ (call (Value.ref 290) _) _ _ _); k_dflt (refine' ConX.use ?k1 ?k2 ?k3 ?k4 ?k5 ?kK (max_x _ _ _ _ _ _ ?p0 ?p1) ?kd ?ku ?_; (case k1 => k_asm); (case k2 => k_asm); (case k3 => k_asm); (case k4 => k_asm); (case k5 => k_asm); (case kK => first | exact rfl | assumption); (case p0 => assumption); (case p1 => assumption); (case kd => ktr_room); (case ku => ktr_units); intro e9 h9 tk9 R9; (try dsimp only); (try k_fold)))
  intro w mean mg mb dp un gd cn cs a ccd cl A₀ base h₀ L m s Q E B F X N T hk hd hu hret
  refine wpAny_call ?_
  k_dflt (refine' code_try0 ?k1 ?k2 ?k3 ?k4 ?k5 ?kA ?kF ?kK ?k6 ?k7 ?k8 ?k9 ?kB ?_ ?c2 ?c3 ?c4 ?c5; (case kA => exact rfl); (case kF => exact rfl); (case kK => assumption); (case k1 => k_asm); (case k2 => k_asm); (case k3 => k_asm); (case k4 => k_asm); (case k5 => k_asm); (case k6 => k_is); (case k7 => k_is); (case k8 => ktr_room); (case k9 => exact BindsTo.of_eq rfl); (case c5 => decide); (case kB => exact locs rfl); (case c2 => exact rfl); (case c3 => exact rfl); (case c4 => exact rfl))
  intro g' L' h' FG' F' N' B' X' T'
  (try dsimp only)
  k_fold
  repeat (first | walk1 | (dsimp only; walk1))
  (try k_unfold)
  (try dsimp only)
  have st : ∀ g'', KtsTurn [L] g' g'' → ∀ b o, h₀.get? b = some o → g''.get? b = some o := fun g'' T'' b o e => T''.other b o (FG'.keep b o e) fun q => by
    rw [List.mem_singleton.mp q, kts_self FG'] at e; cases e
  k_dflt (refine caught_x (KF := Mine.hd.heap_1 w.params) (mean := mean) (mg := mg) (mb := mb) R9 B' F'.above (fun z hz => (N' z hz).2.2) (fun g'' T'' _ => ⟨X.keeps (st g'' T''), T.keeps (st g'' T'')⟩) (by k_is) (exc_findings w).1 ?_)
  intro hC gC oe vs dd od tkC TC FC NC c1 c2 c3 c4 BC XC PC
  clear N' F' B' X' T' R9
  (try dsimp only)
  k_fold
  repeat (first | walk1 | (dsimp only; walk1))
  obtain ⟨es, n, tc, rfl, hgc⟩ := c4
  obtain ⟨oc, odi, oda, osl⟩ := oe
  dsimp only at c1 c2 c3
  subst c1 c2 c3
  have hfo : findObj (Mine.hd.heap_1 w.params) 34 (some (dictOf es n)) (Str.ofString "code") = some (.value (.str (Str.ofString "TM") tc)) := by
    refine' findObj_own ?hh ?ha ?hn hgc
    (case hh => k_is)
    (case ha => k_is)
    (case hn => k_is)
  k_dflt (refine exc_get (Frag.In.keeps XC FC.keep) (exc_findings w).1 (inst_e1 NC (.head _) (.tail _ (.head _))) (exc_findings w).2.1 (exc_findings w).2.2 hfo rfl ?_)
  repeat (first | walk1 | (dsimp only; walk1))
  exact hret _ news _ _ (by assumption) (news_sub (by assumption) (fun p hp => .tail _ (.tail _ hp))) ⟨congrArg Value.bool (by decide +kernel), rfl⟩
end

section
open PySem PySem.W PySem.Calls PyProof.Rows PySem.Spec
section
variable {prog : Program} {w : World} {A : Around} {E : Value → Shared → Prop} {R : Result → Shared → Prop} {s : Shared} {h₀ : Heap} {L : Addr} {m : Str → Option Value} {env : Env}
/-- a comprehension of two clauses -/
abbrev two (elt t0 it0 t1 it1 : Expr) (scope : Scope) (pos : Pos) : Expr := .ListComp elt [⟨t0, it0, [], 0⟩, ⟨t1, it1, [], 0⟩] scope pos
theorem two_turn0 (elt t0 it0 t1 it1 : Expr) (scope : Scope) (pos : Pos) (it acc : Value) (env : Env) : compTurn (two elt t0 it0 t1 it1 scope pos) 0 it acc env = (do
      standAt it0.pos
      match ← pyNext it with
      | none => pure (.done .next)
      | some v =>
        letOwnedTupleGo t0 it v
        assign t0 env v
        let x ← eval it1 env
        standAt it1.pos
        let x ← foldedSetIterable it1 env x
        let _ ← runOwn (.compStart (two elt t0 it0 t1 it1 scope pos) 1 (← holding [x] (pyIter x)) acc env) env
        again (.compLoop (two elt t0 it0 t1 it1 scope pos) 0 it acc env)) := by rfl
theorem two_turn1 (elt t0 it0 t1 it1 : Expr) (scope : Scope) (pos : Pos) (it acc : Value) (env : Env) : compTurn (two elt t0 it0 t1 it1 scope pos) 1 it acc env = (do
      standAt it1.pos
      match ← pyNext it with
      | none => pure (.done .next)
      | some v =>
        letOwnedTupleGo t1 it v
        assign t1 env v
        (do let _ ← call (.builtin "list.append") [acc, ← eval elt env])
        again (.compLoop (two elt t0 it0 t1 it1 scope pos) 1 it acc env)) := by rfl
theorem two_step1 {elt t0 it0 t1 it1 : Expr} {scope : Scope} {pos : Pos} {it acc : Value} (ht : ∀ v, letOwnedTupleGo t1 it v = pure ())
    (h : wpAny (model prog w) A (pyNext it) (fun r s₁ => match r with
      | none => R (.ok .next) s₁
      | some v => wpAny (model prog w) A (assign t1 env v) (fun _ s₂ => wpAny (model prog w) A (eval elt env) (fun x s₃ => wpAny (model prog w) A (call (.builtin "list.append") [acc, x]) (fun _ s₄ =>
          codeAny (model prog w) A (.compLoop (two elt t0 it0 t1 it1 scope pos) 1 it acc env) R s₄) (notedBy (model prog w) A env fun e s' => R (.error e) s') s₃) (notedBy (model prog w) A env fun e s' => R (.error e) s') s₂) (notedBy (model prog w) A env fun e s' => R (.error e) s') s₁)
      (notedBy (model prog w) A env fun e s' => R (.error e) s') s) :
    codeAny (model prog w) A (.compLoop (two elt t0 it0 t1 it1 scope pos) 1 it acc env) R s := by
  refine codeAny_of_tree ?_
  show wpAny _ A ((compTurn (two elt t0 it0 t1 it1 scope pos) 1 it acc env).onRaise (fun x => do noteFrame x env; theTreesLotGoes x)) _ _ s
  refine wpAny_noted ?_
  rw [two_turn1]
  refine wpAny_bind (wpAny_standAt (wpAny_bind (wpAny_mono h (fun r s₁ h₁ => ?_) fun _ _ h' => h')))
  cases r with
  | none => exact wpAny_pure h₁
  | some v =>
    refine wpAny_bind (wpAny_of_eq (ht v) ?_)
    refine wpAny_bind (wpAny_mono h₁ (fun _ s₂ h₂ => ?_) fun _ _ h' => h')
    exact wpAny_bind (wpAny_bind (wpAny_mono h₂ (fun x s₄ h₄ => wpAny_bind (wpAny_mono h₄ (fun _ s₅ h₅ => wpAny_pure (wpAny_pure ⟨rfl, h₅⟩)) fun _ _ h' => h')) fun _ _ h' => h'))
theorem two_step0 {elt t0 it0 t1 it1 : Expr} {scope : Scope} {pos : Pos} {it acc : Value} (ht : ∀ v, letOwnedTupleGo t0 it v = pure ()) (hs : ∀ x, foldedSetIterable it1 env x = pure x)
    (h : wpAny (model prog w) A (pyNext it) (fun r s₁ => match r with
      | none => R (.ok .next) s₁
      | some v => wpAny (model prog w) A (assign t0 env v) (fun _ s₂ => wpAny (model prog w) A (eval it1 env) (fun x s₃ => wpAny (model prog w) A (pyIter x) (fun it' s₄ =>
          codeAny (model prog w) A (.compStart (two elt t0 it0 t1 it1 scope pos) 1 it' acc env) (fun r s' => match r with
            | .ok _ => codeAny (model prog w) A (.compLoop (two elt t0 it0 t1 it1 scope pos) 0 it acc env) R s'
            | .error e => cameBackBy (model prog w) A env (notedBy (model prog w) A env fun e s' => R (.error e) s') e s') s₄)
          (notedBy (model prog w) A env fun e s' => R (.error e) s') s₃) (notedBy (model prog w) A env fun e s' => R (.error e) s') s₂) (notedBy (model prog w) A env fun e s' => R (.error e) s') s₁)
      (notedBy (model prog w) A env fun e s' => R (.error e) s') s) :
    codeAny (model prog w) A (.compLoop (two elt t0 it0 t1 it1 scope pos) 0 it acc env) R s := by
  refine codeAny_of_tree ?_
  show wpAny _ A ((compTurn (two elt t0 it0 t1 it1 scope pos) 0 it acc env).onRaise (fun x => do noteFrame x env; theTreesLotGoes x)) _ _ s
  refine wpAny_noted ?_
  rw [two_turn0]
  refine wpAny_bind (wpAny_standAt (wpAny_bind (wpAny_mono h (fun r s₁ h₁ => ?_) fun _ _ h' => h')))
  cases r with
  | none => exact wpAny_pure h₁
  | some v =>
    refine wpAny_bind (wpAny_of_eq (ht v) ?_)
    refine wpAny_bind (wpAny_mono h₁ (fun _ s₂ h₂ => ?_) fun _ _ h' => h')
    refine wpAny_bind (wpAny_mono h₂ (fun x s₃ h₃ => wpAny_bind (wpAny_standAt (wpAny_bind (wpAny_of_eq (hs x) (wpAny_bind (wpAny_holding (wpAny_mono h₃ (fun it' s₄ h₄ => ?_) fun _ _ h' => h'))))))) fun _ _ h' => h')
    refine wpAny_bind (wpAny_runOwn (codeAny_mono h₄ fun r s' hr => ?_))
    cases r with
    | ok f => exact wpAny_pure ⟨rfl, hr⟩
    | error e => exact hr
theorem two_start1 {elt t0 it0 t1 it1 : Expr} {scope : Scope} {pos : Pos} {it acc : Value}
    (h0 : codeAny (model prog w) A (.compLoop (two elt t0 it0 t1 it1 scope pos) 1 it acc env) R s)
    (h : wpAny (model prog w) A (pyIter it) (fun it' s' => codeAny (model prog w) A (.compLoop (two elt t0 it0 t1 it1 scope pos) 1 it' acc env) R s')
      (notedBy (model prog w) A env fun x s' => R (.error x) s') s) :
    codeAny (model prog w) A (.compStart (two elt t0 it0 t1 it1 scope pos) 1 it acc env) R s := by
  refine codeAny_of_tree ?_
  show wpAny _ _ ((compStart (two elt t0 it0 t1 it1 scope pos) 1 it acc env).onRaise (fun x => do noteFrame x env; standAt theWindowsPlace)) _ _ s
  refine wpAny_notedAt ?_
  unfold compStart
  show wpAny _ _ (ask >>= _) _ _ s
  refine wpAny_bind (wpAny_askSetting (wpAny_ite ?_))
  split
  · first
      | exact wpAny_bind (wpAny_pure (wpAny_pure (And.intro rfl h0)))
      | exact wpAny_pure (And.intro rfl h0)
  · first
      | exact wpAny_bind (wpAny_rule (wpAny_bind (wpAny_standAt (wpAny_bind (wpAny_mono h (fun it' s' h' => wpAny_pure (And.intro rfl h')) fun _ _ x => x)))))
      | (refine wpAny_bind (wpAny_rule ?_); show wpAny _ _ (standAt it1.pos >>= _) _ _ s; exact wpAny_bind (wpAny_standAt (wpAny_bind (wpAny_mono h (fun it' s' h' => wpAny_pure (And.intro rfl h')) fun _ _ x => x))))
end
end

section
open PySem PySem.W PySem.Calls PyProof.Rows PySem.Spec
section
variable {prog : Program} {w : World} {A : Around} {E : Value → Shared → Prop} {R : Result → Shared → Prop} {s : Shared} {h₀ : Heap} {L : Addr} {m : Str → Option Value} {env : Env}
abbrev tup2 (f a : Value) : Obj := { cls := .type "tuple", data := .seq [f, a].toArray }
/-- a row: a pair of the ledger -/
def RowAt (G : List (Addr × Obj) → Value → Value → Prop) (T : List (Addr × Obj)) (v : Value) : Prop := ∃ t f a, v = .ref t ∧ (t, tup2 f a) ∈ T ∧ G T f a
def Mono (G : List (Addr × Obj) → Value → Value → Prop) : Prop := ∀ T T' f a, (∀ p ∈ T, p ∈ T') → G T f a → G T' f a
theorem RowAt.mono {G : List (Addr × Obj) → Value → Value → Prop} (hG : Mono G) {T T' : List (Addr × Obj)} {v : Value} (hs : ∀ p ∈ T, p ∈ T') (h : RowAt G T v) : RowAt G T' v := by
  obtain ⟨t, f, a, e, h1, h2⟩ := h
  exact ⟨t, f, a, e, hs _ h1, hG _ _ _ _ hs h2⟩
def EltEnd (h₀ : Heap) (L : Addr) (m : Str → Option Value) (s : Shared) (v0 v1 : Value) (news : List (Addr × Obj)) (y : Value) (s₂ : Shared) : Prop :=
  ∃ h' tk' t, s₂ = { s with heap := h', toks := tk' } ∧ y = .ref t ∧ Fr h₀ L h' m ∧ News h₀ L h' ((t, tup2 v0 v1) :: news) ∧ AllLt t news
def Off4 (J I C D : Addr) (T : List (Addr × Obj)) : Prop := ∀ p ∈ T, p.1 ≠ J ∧ p.1 ≠ I ∧ p.1 ≠ C ∧ p.1 ≠ D
structure Apart (J I C D : Addr) : Prop where
  ji : J ≠ I
  jc : J ≠ C
  jd : J ≠ D
  ic : I ≠ C
  id : I ≠ D
  cd : C ≠ D
theorem get_of_fresh {h h' : Heap} {b : Addr} (N : ∀ b o, h.get? b = some o → h'.get? b = some o) (e : h'.get? b = none) : h.get? b = none := by
  cases q : h.get? b with
  | none => rfl
  | some o => rw [N _ _ q] at e; cases e
theorem two_inner {elt t0 it0 it1 : Expr} {x0 x1 : Str} {p1 : Pos} {scope : Scope} {cl : List (Str × Addr)} {pos : Pos} {its : Array Value} {ax J I C D : Addr} {oI : Obj} {v0 : Value} {G : List (Addr × Obj) → Value → Value → Prop}
    (hh : A.handled = none) (hkind : scope.kind = .function) (hx1 : scope.names.lookup x1 = some .local) (hne : (x0 == x1) = false) (hG : Mono G) (ap : Apart J I C D)
    (helt : ∀ v1 oJ oC oD T m₂ h tk E', LCg.NsObj oC m₂ → m₂ x0 = some v0 → m₂ x1 = some v1 → Fr h₀ L h m → News h₀ L h ((J, oJ) :: (I, oI) :: (C, oC) :: (D, oD) :: T) →
      wpAny (model prog w) A (eval elt (compEnvC scope cl C env)) (EltEnd h₀ L m s v0 v1 ((J, oJ) :: (I, oI) :: (C, oC) :: (D, oD) :: T)) E' { s with heap := h, toks := tk }) :
    ∀ k i h tk oJ oC ys T m₂, i + k = its.size → ys.length + k ≤ 64 → Fr h₀ L h m → News h₀ L h ((J, oJ) :: (I, oI) :: (C, oC) :: (D, LCg.lst ys) :: T) → LCg.NsObj oC m₂ → m₂ x0 = some v0 →
      h.IsTupleIter J ax i → TupAt ax its T → Off4 J I C D T → (∀ a, a ∈ its.toList → G T v0 a) → (∀ v ∈ ys, RowAt G T v) →
      (∀ h' tk' oC' ys' ext m₂', Fr h₀ L h' m → News h₀ L h' ((I, oI) :: (C, oC') :: (D, LCg.lst ys') :: (ext ++ T)) → LCg.NsObj oC' m₂' → Off4 J I C D (ext ++ T) → (∀ v ∈ ys', RowAt G (ext ++ T) v) → ys'.length = ys.length + k →
        R (.ok .next) { s with heap := h', toks := tk' }) →
      codeAny (model prog w) A (.compLoop (two elt t0 it0 (.Name x1 p1) it1 scope pos) 1 (.ref J) (.ref D) (compEnvC scope cl C env)) R { s with heap := h, toks := tk } := by
  intro k
  induction k with
  | zero =>
    intro i h tk oJ oC ys T m₂ hi hl F N hC hx hit hT off hGa hY fin
    have ht := hT.tup (h := h) (L := L) (h₀ := h₀) (fun p hp => N p (.tail _ (.tail _ (.tail _ (.tail _ hp)))))
    have hax : ax ≠ J := by obtain ⟨o, hm, _⟩ := hT; exact (off _ hm).1
    refine two_step1 (fun _ => rfl) ?_
    refine (Walks.tuple hh J ax hax its).done _ _ _ (by rw [show its.size = i by omega]; exact ⟨hit, ht⟩) fun h₂ tk₂ hk₂ => ?_
    have NJ := N _ (.head _)
    have N₂ : News h₀ L h₂ ((I, oI) :: (C, oC) :: (D, LCg.lst ys) :: ([] ++ T)) := LCg.news_but (fun p hp => N p (.tail _ hp)) hk₂ (fun p hp => by
      rcases List.mem_cons.mp hp with rfl | hp
      · exact Ne.symm ap.ji
      · rcases List.mem_cons.mp hp with rfl | hp
        · exact Ne.symm ap.jc
        · rcases List.mem_cons.mp hp with rfl | hp
          · exact Ne.symm ap.jd
          · exact (off p hp).1)
    exact fin h₂ tk₂ oC ys [] m₂ (LCg.fr_but F hk₂ (Ne.symm NJ.2.1) NJ.2.2) N₂ hC off hY (by omega)
  | succ k ih =>
    intro i h tk oJ oC ys T m₂ hi hl F N hC hx hit hT off hGa hY fin
    have ht := hT.tup (h := h) (L := L) (h₀ := h₀) (fun p hp => N p (.tail _ (.tail _ (.tail _ (.tail _ hp)))))
    have hax : ax ≠ J := by obtain ⟨o, hm, _⟩ := hT; exact (off _ hm).1
    have W := Walks.tuple (prog := prog) (w := w) hh J ax hax its
    refine two_step1 (fun _ => rfl) ?_
    refine W.item i _ _ _ (by omega) ⟨hit, ht⟩ fun v h₂ tk₂ hPv hst₂ hk₂ => ?_
    have NJ := N _ (.head _)
    have NI := N _ (.tail _ (.head _))
    have NC := N _ (.tail _ (.tail _ (.head _)))
    have ND := N _ (.tail _ (.tail _ (.tail _ (.head _))))
    dsimp only at NJ NI NC ND
    refine wpAny_assign_Name (wpAny_storeName_local (lookup_relabel_local hx1) ((hC.ns NC.1).at' fun o e => hk₂ _ o (by simpa using Ne.symm ap.jc) e) (fun h₃ hn₃ hs₃ => ?_) (by simp [compEnvC, relabel, hkind]))
    obtain ⟨oC₃, heC, hoC⟩ := LCg.ns_obj hn₃
    obtain ⟨oJ₃, heJ, hJc, hJd⟩ := hst₂.1
    have up : ∀ b o, b ≠ J → b ≠ C → h.get? b = some o → h₃.get? b = some o := fun b o h1 h2 e => hs₃.extBut b o h2 (hk₂ b o (by simpa using h1) e)
    have heJ₃ : h₃.get? J = some oJ₃ := hs₃.extBut _ _ ap.jc heJ
    have F₃ : Fr h₀ L h₃ m := (LCg.fr_but F hk₂ (Ne.symm NJ.2.1) NJ.2.2).change hs₃ NC.2.1 NC.2.2
    have N₃ : News h₀ L h₃ ((J, oJ₃) :: (I, oI) :: (C, oC₃) :: (D, LCg.lst ys) :: T) := fun p hp => by
      rcases List.mem_cons.mp hp with rfl | hp
      · exact ⟨heJ₃, NJ.2⟩
      · rcases List.mem_cons.mp hp with rfl | hp
        · exact ⟨up _ _ (Ne.symm ap.ji) ap.ic NI.1, NI.2⟩
        · rcases List.mem_cons.mp hp with rfl | hp
          · exact ⟨heC, NC.2⟩
          · rcases List.mem_cons.mp hp with rfl | hp
            · exact ⟨up _ _ (Ne.symm ap.jd) (Ne.symm ap.cd) ND.1, ND.2⟩
            · have z := N p (.tail _ (.tail _ (.tail _ (.tail _ hp))))
              exact ⟨up _ _ (off p hp).1 (off p hp).2.2.1 z.1, z.2⟩
    refine wpAny_mono (helt v oJ₃ oC₃ (LCg.lst ys) T _ h₃ _ _ hoC (by rw [if_neg (by simpa using hne)]; exact hx) (by simp) F₃ N₃) (fun y s₄ h₄ => ?_) fun _ _ e => e
    obtain ⟨h₄, tk₄, t, rfl, rfl, F₄, N₄, lt⟩ := h₄
    have tJ : J < t := all_lt_at lt _ (.head _)
    have tI : I < t := all_lt_at lt _ (.tail _ (.head _))
    have tC : C < t := all_lt_at lt _ (.tail _ (.tail _ (.head _)))
    have tD : D < t := all_lt_at lt _ (.tail _ (.tail _ (.tail _ (.head _))))
    have Nt := N₄ _ (.head _)
    have NJ₄ := N₄ _ (.tail _ (.head _))
    have NI₄ := N₄ _ (.tail _ (.tail _ (.head _)))
    have NC₄ := N₄ _ (.tail _ (.tail _ (.tail _ (.head _))))
    have ND₄ := N₄ _ (.tail _ (.tail _ (.tail _ (.tail _ (.head _)))))
    dsimp only at Nt NJ₄ NI₄ NC₄ ND₄
    refine append_at (hsz := by rw [List.size_toArray]; exact Nat.le_trans (by omega : ys.length ≤ 64) (by decide)) ND₄.1 fun h₅ hs₅ hD₅ => ?_
    have N₅ : News h₀ L h₅ ((J, oJ₃) :: (I, oI) :: (C, oC₃) :: (D, LCg.lst (ys ++ [.ref t])) :: ((t, tup2 v0 v) :: T)) := fun p hp => by
      rcases List.mem_cons.mp hp with rfl | hp
      · exact ⟨hs₅.extBut _ _ ap.jd NJ₄.1, NJ₄.2⟩
      · rcases List.mem_cons.mp hp with rfl | hp
        · exact ⟨hs₅.extBut _ _ ap.id NI₄.1, NI₄.2⟩
        · rcases List.mem_cons.mp hp with rfl | hp
          · exact ⟨hs₅.extBut _ _ ap.cd NC₄.1, NC₄.2⟩
          · rcases List.mem_cons.mp hp with rfl | hp
            · exact ⟨hD₅.trans (congrArg some (LCg.lst_snoc ys _)), ND₄.2⟩
            · rcases List.mem_cons.mp hp with rfl | hp
              · exact ⟨hs₅.extBut _ _ (Nat.ne_of_gt tD) Nt.1, Nt.2⟩
              · have z := N₄ p (.tail _ (.tail _ (.tail _ (.tail _ (.tail _ hp)))))
                exact ⟨hs₅.extBut _ _ (off p hp).2.2.2 z.1, z.2⟩
    have hv : v ∈ its.toList := by
      have e : its[i]? = some v := hPv
      obtain ⟨h1, rfl⟩ := Array.getElem?_eq_some_iff.mp e
      exact Array.getElem_mem_toList h1
    have sub : ∀ p ∈ T, p ∈ (t, tup2 v0 v) :: T := fun p hp => .tail _ hp
    refine ih (i + 1) h₅ tk₄ oJ₃ oC₃ (ys ++ [.ref t]) ((t, tup2 v0 v) :: T) _ (by omega) (by rw [List.length_append, List.length_singleton]; omega) (F₄.change hs₅ ND₄.2.1 ND₄.2.2) N₅ hoC (by rw [if_neg (by simpa using hne)]; exact hx)
      ⟨oJ₃, (N₅ _ (.head _)).1, hJc, hJd⟩ (by obtain ⟨o, hm, r⟩ := hT; exact ⟨o, .tail _ hm, r⟩) ?_ (fun a ha => hG _ _ _ _ sub (hGa a ha)) ?_ ?_
    · intro p hp
      rcases List.mem_cons.mp hp with rfl | hp
      · exact ⟨Nat.ne_of_gt tJ, Nat.ne_of_gt tI, Nat.ne_of_gt tC, Nat.ne_of_gt tD⟩
      · exact off p hp
    · intro z hz
      rcases List.mem_append.mp hz with hz | hz
      · exact (hY z hz).mono hG sub
      · rw [List.mem_singleton.mp hz]
        exact ⟨t, v0, v, rfl, .head _, hG _ _ _ _ sub (hGa v hv)⟩
    · intro h' tk' oC' ys' ext m₂' a1 a2 a3 a4 a5 a6
      have e : ext ++ (t, tup2 v0 v) :: T = (ext ++ [(t, tup2 v0 v)]) ++ T := by rw [List.append_assoc]; rfl
      rw [e] at a2 a4 a5
      exact fin h' tk' oC' ys' _ m₂' a1 a2 a3 a4 a5 (by rw [a6, List.length_append, List.length_singleton]; omega)
end
end

section
open PySem PySem.W PySem.Calls PyProof.Rows PySem.Spec
section
variable {prog : Program} {w : World} {A : Around} {E : Value → Shared → Prop} {R : Result → Shared → Prop} {s : Shared} {h₀ : Heap} {L : Addr} {m : Str → Option Value} {env : Env}
/-- the inner iterable has been made: a tuple of three, new in the ledger -/
def ItEnd (h₀ : Heap) (L : Addr) (m : Str → Option Value) (s : Shared) (G : List (Addr × Obj) → Value → Value → Prop) (v0 : Value) (I C D : Addr) (oI oC oD : Obj) (T : List (Addr × Obj)) (xv : Value) (s₂ : Shared) : Prop :=
  ∃ h' tk' ax its ext, s₂ = { s with heap := h', toks := tk' } ∧ xv = .ref ax ∧ Fr h₀ L h' m ∧ News h₀ L h' (ext ++ (I, oI) :: (C, oC) :: (D, oD) :: T) ∧ (∀ p ∈ ext, I < p.1 ∧ C < p.1 ∧ D < p.1) ∧ its.size = 3 ∧ TupAt ax its (ext ++ T) ∧
    ∀ a, a ∈ its.toList → G (ext ++ T) v0 a
def ItOk (prog : Program) (w : World) (A : Around) (env : Env) (scope : Scope) (cl : List (Str × Addr)) (h₀ : Heap) (L : Addr) (m : Str → Option Value) (s : Shared) (G : List (Addr × Obj) → Value → Value → Prop) (it1 : Expr) (x0 : Str) (its0 : Array Value) (T0 : List (Addr × Obj)) : Prop :=
  ∀ v0 I oI C oC D oD ext m₂ h tk E', v0 ∈ its0.toList → LCg.NsObj oC m₂ → m₂ x0 = some v0 → Fr h₀ L h m → News h₀ L h ((I, oI) :: (C, oC) :: (D, oD) :: (ext ++ T0)) →
    wpAny (model prog w) A (eval it1 (compEnvC scope cl C env)) (ItEnd h₀ L m s G v0 I C D oI oC oD (ext ++ T0)) E' { s with heap := h, toks := tk }
def EltOk (prog : Program) (w : World) (A : Around) (env : Env) (scope : Scope) (cl : List (Str × Addr)) (h₀ : Heap) (L : Addr) (m : Str → Option Value) (s : Shared) (elt : Expr) (x0 x1 : Str) : Prop :=
  ∀ v0 v1 J oJ I oI C oC D oD T m₂ h tk E', LCg.NsObj oC m₂ → m₂ x0 = some v0 → m₂ x1 = some v1 → Fr h₀ L h m → News h₀ L h ((J, oJ) :: (I, oI) :: (C, oC) :: (D, oD) :: T) →
      wpAny (model prog w) A (eval elt (compEnvC scope cl C env)) (EltEnd h₀ L m s v0 v1 ((J, oJ) :: (I, oI) :: (C, oC) :: (D, oD) :: T)) E' { s with heap := h, toks := tk }
theorem two_outer {elt it0 it1 : Expr} {x0 x1 : Str} {p0 p1 : Pos} {scope : Scope} {cl : List (Str × Addr)} {pos : Pos} {its0 : Array Value} {ax0 I C D : Addr} {T0 : List (Addr × Obj)} {G : List (Addr × Obj) → Value → Value → Prop}
    (hh : A.handled = none) (hkind : scope.kind = .function) (hx0 : scope.names.lookup x0 = some .local) (hx1 : scope.names.lookup x1 = some .local) (hne : (x0 == x1) = false) (hG : Mono G)
    (ic : I ≠ C) (id : I ≠ D) (cd : C ≠ D) (hs : ∀ env x, foldedSetIterable it1 env x = pure x)
    (hit1 : ItOk prog w A env scope cl h₀ L m s G it1 x0 its0 T0) (helt : EltOk prog w A env scope cl h₀ L m s elt x0 x1) :
    ∀ k i h tk oI oC ys ext m₂, i + k = its0.size → ys.length + 3 * k ≤ 64 → Fr h₀ L h m → News h₀ L h ((I, oI) :: (C, oC) :: (D, LCg.lst ys) :: (ext ++ T0)) → LCg.NsObj oC m₂ →
      (oI.cls = .type "tuple_iterator" ∧ oI.data = .fields #[.ref ax0, .int i 0]) → TupAt ax0 its0 T0 → (∀ p ∈ ext ++ T0, p.1 ≠ I ∧ p.1 ≠ C ∧ p.1 ≠ D) → (∀ v ∈ ys, RowAt G (ext ++ T0) v) →
      (∀ h' tk' oC' ys' ext' m₂', Fr h₀ L h' m → News h₀ L h' ((C, oC') :: (D, LCg.lst ys') :: (ext' ++ T0)) → LCg.NsObj oC' m₂' → (∀ p ∈ ext' ++ T0, p.1 ≠ C ∧ p.1 ≠ D) → (∀ v ∈ ys', RowAt G (ext' ++ T0) v) → ys'.length ≤ 64 →
        R (.ok .next) { s with heap := h', toks := tk' }) →
      codeAny (model prog w) A (.compLoop (two elt (.Name x0 p0) it0 (.Name x1 p1) it1 scope pos) 0 (.ref I) (.ref D) (compEnvC scope cl C env)) R { s with heap := h, toks := tk } := by
  intro k
  induction k with
  | zero =>
    intro i h tk oI oC ys ext m₂ hi hl F N hC hit hT off hY fin
    obtain ⟨o, hm, r⟩ := hT
    have ht : h.IsTuple ax0 its0 := ⟨o, (N _ (.tail _ (.tail _ (.tail _ (List.mem_append_right _ hm))))).1, r⟩
    have hax : ax0 ≠ I := (off _ (List.mem_append_right _ hm)).1
    have NI := N _ (.head _)
    refine two_step0 (fun _ => rfl) (hs _) ?_
    refine (Walks.tuple hh I ax0 hax its0).done _ _ _ (by rw [show its0.size = i by omega]; exact ⟨⟨oI, NI.1, hit⟩, ht⟩) fun h₂ tk₂ hk₂ => ?_
    have N₂ : News h₀ L h₂ ((C, oC) :: (D, LCg.lst ys) :: (ext ++ T0)) := LCg.news_but (fun p hp => N p (.tail _ hp)) hk₂ (fun p hp => by
      rcases List.mem_cons.mp hp with rfl | hp
      · exact Ne.symm ic
      · rcases List.mem_cons.mp hp with rfl | hp
        · exact Ne.symm id
        · exact (off p hp).1)
    exact fin h₂ tk₂ oC ys ext m₂ (LCg.fr_but F hk₂ (Ne.symm NI.2.1) NI.2.2) N₂ hC (fun p hp => (off p hp).2) hY (by omega)
  | succ k ih =>
    intro i h tk oI oC ys ext m₂ hi hl F N hC hit hT off hY fin
    have hT' := hT
    obtain ⟨o, hm, r⟩ := hT
    have ht : h.IsTuple ax0 its0 := ⟨o, (N _ (.tail _ (.tail _ (.tail _ (List.mem_append_right _ hm))))).1, r⟩
    have hax : ax0 ≠ I := (off _ (List.mem_append_right _ hm)).1
    have NI := N _ (.head _)
    have NC := N _ (.tail _ (.head _))
    have ND := N _ (.tail _ (.tail _ (.head _)))
    dsimp only at NI NC ND
    refine two_step0 (fun _ => rfl) (hs _) ?_
    refine (Walks.tuple hh I ax0 hax its0).item i _ _ _ (by omega) ⟨⟨oI, NI.1, hit⟩, ht⟩ fun v h₂ tk₂ hPv hst₂ hk₂ => ?_
    refine wpAny_assign_Name (wpAny_storeName_local (lookup_relabel_local hx0) ((hC.ns NC.1).at' fun o e => hk₂ _ o (by simpa using Ne.symm ic) e) (fun h₃ hn₃ hs₃ => ?_) (by simp [compEnvC, relabel, hkind]))
    obtain ⟨oC₃, heC, hoC⟩ := LCg.ns_obj hn₃
    obtain ⟨oI₃, heI, hIc, hId⟩ := hst₂.1
    have up : ∀ b o, b ≠ I → b ≠ C → h.get? b = some o → h₃.get? b = some o := fun b o h1 h2 e => hs₃.extBut b o h2 (hk₂ b o (by simpa using h1) e)
    have heI₃ : h₃.get? I = some oI₃ := hs₃.extBut _ _ ic heI
    have F₃ : Fr h₀ L h₃ m := (LCg.fr_but F hk₂ (Ne.symm NI.2.1) NI.2.2).change hs₃ NC.2.1 NC.2.2
    have N₃ : News h₀ L h₃ ((I, oI₃) :: (C, oC₃) :: (D, LCg.lst ys) :: (ext ++ T0)) := fun p hp => by
      rcases List.mem_cons.mp hp with rfl | hp
      · exact ⟨heI₃, NI.2⟩
      · rcases List.mem_cons.mp hp with rfl | hp
        · exact ⟨heC, NC.2⟩
        · rcases List.mem_cons.mp hp with rfl | hp
          · exact ⟨up _ _ (Ne.symm id) (Ne.symm cd) ND.1, ND.2⟩
          · have z := N p (.tail _ (.tail _ (.tail _ hp)))
            exact ⟨up _ _ (off p hp).1 (off p hp).2.1 z.1, z.2⟩
    have hv : v ∈ its0.toList := by
      have e : its0[i]? = some v := hPv
      obtain ⟨h1, rfl⟩ := Array.getElem?_eq_some_iff.mp e
      exact Array.getElem_mem_toList h1
    refine wpAny_mono (hit1 v I oI₃ C oC₃ D (LCg.lst ys) ext _ h₃ _ _ hv hoC (by simp) F₃ N₃) (fun xv s₄ h₄ => ?_) fun _ _ e => e
    obtain ⟨h₄, tk₄, ax, its, ex, rfl, rfl, F₄, N₄, lt, hsz, hTu, hGa⟩ := h₄
    have hl₄ : h₄.IsTuple ax its := by
      obtain ⟨o', hm', r'⟩ := hTu
      refine ⟨o', (N₄ (ax, o') ?_).1, r'⟩
      rcases List.mem_append.mp hm' with q | q
      · exact List.mem_append_left _ q
      · exact List.mem_append_right _ (.tail _ (.tail _ (.tail _ q)))
    refine wpAny_pyIter_tuple hl₄ ?_
    have up₄ : ∀ b o, h₄.get? b = some o → (h₄.push { cls := .type "tuple_iterator", data := .fields #[.ref ax, .int 0 0] }).get? b = some o := fun b o e => Heap.get?_push_of_some _ e
    have F₅ := F₄.keeps up₄
    have N₅ : News h₀ L (h₄.push { cls := .type "tuple_iterator", data := .fields #[.ref ax, .int 0 0] }) ((h₄.objs.size, { cls := .type "tuple_iterator", data := .fields #[.ref ax, .int 0 0] }) :: (I, oI₃) :: (C, oC₃) :: (D, LCg.lst ys) :: ((ex ++ ext) ++ T0)) := fun p hp => by
      rcases List.mem_cons.mp hp with rfl | hp
      · exact ⟨Heap.get?_push_size _ rfl, Nat.ne_of_gt F₄.ns.lt, next_is_new F₄⟩
      · refine N₄.grown up₄ p ?_
        rw [List.append_assoc] at hp
        rcases List.mem_cons.mp hp with q | hp
        · exact List.mem_append_right _ (q ▸ .head _)
        · rcases List.mem_cons.mp hp with q | hp
          · exact List.mem_append_right _ (q ▸ .tail _ (.head _))
          · rcases List.mem_cons.mp hp with q | hp
            · exact List.mem_append_right _ (q ▸ .tail _ (.tail _ (.head _)))
            · rcases List.mem_append.mp hp with q | q
              · exact List.mem_append_left _ q
              · exact List.mem_append_right _ (.tail _ (.tail _ (.tail _ q)))
    have lt₄ : ∀ p ∈ ex ++ (I, oI₃) :: (C, oC₃) :: (D, LCg.lst ys) :: (ext ++ T0), p.1 < h₄.objs.size := fun p hp => Heap.lt_size (N₄ p hp).1
    have off₅ : Off4 h₄.objs.size I C D ((ex ++ ext) ++ T0) := fun p hp => by
      rw [List.append_assoc] at hp
      rcases List.mem_append.mp hp with q | q
      · have z := lt p q
        exact ⟨Nat.ne_of_lt (lt₄ p (List.mem_append_left _ q)), Nat.ne_of_gt z.1, Nat.ne_of_gt z.2.1, Nat.ne_of_gt z.2.2⟩
      · exact ⟨Nat.ne_of_lt (lt₄ p (List.mem_append_right _ (.tail _ (.tail _ (.tail _ q))))), off p q⟩
    have ap : Apart h₄.objs.size I C D := ⟨Nat.ne_of_gt (lt₄ (I, oI₃) (List.mem_append_right _ (.head _))), Nat.ne_of_gt (lt₄ (C, oC₃) (List.mem_append_right _ (.tail _ (.head _)))),
      Nat.ne_of_gt (lt₄ (D, LCg.lst ys) (List.mem_append_right _ (.tail _ (.tail _ (.head _))))), ic, id, cd⟩
    rw [← List.append_assoc] at hTu hGa
    have sub : ∀ p ∈ ext ++ T0, p ∈ (ex ++ ext) ++ T0 := fun p hp => by rw [List.append_assoc]; exact List.mem_append_right _ hp
    have go := two_inner (prog := prog) (w := w) (A := A) (s := s) (L := L) (m := m) (env := env) (elt := elt) (t0 := .Name x0 p0) (it0 := it0) (it1 := it1) (x0 := x0) (x1 := x1) (p1 := p1) (scope := scope) (cl := cl) (pos := pos) (its := its) (ax := ax) (oI := oI₃) (v0 := v) (G := G)
      (R := fun r s' => match r with
        | .ok _ => codeAny (model prog w) A (.compLoop (two elt (.Name x0 p0) it0 (.Name x1 p1) it1 scope pos) 0 (.ref I) (.ref D) (compEnvC scope cl C env)) R s'
        | .error e => cameBackBy (model prog w) A (compEnvC scope cl C env) (notedBy (model prog w) A (compEnvC scope cl C env) fun e s' => R (.error e) s') e s')
      hh hkind hx1 hne hG ap (fun v1 oJ oC oD T m₂ h tk E' => helt v v1 _ oJ _ oI₃ C oC D oD T m₂ h tk E') 3 0 _ tk₄ _ oC₃ ys ((ex ++ ext) ++ T0) _ (by omega) (by omega) F₅ N₅ hoC (by simp)
      ⟨_, Heap.get?_push_size _ rfl, rfl, rfl⟩ hTu off₅ hGa (fun z hz => (hY z hz).mono hG sub) ?_
    · exact two_start1 go (wpAny_pyIter_tupleiter ⟨_, Heap.get?_push_size _ rfl, rfl, rfl⟩ go)
    · intro h' tk' oC' ys' ext' m₂' a1 a2 a3 a4 a5 a6
      dsimp only
      have e : ext' ++ ((ex ++ ext) ++ T0) = (ext' ++ (ex ++ ext)) ++ T0 := (List.append_assoc _ _ _).symm
      rw [e] at a2 a4 a5
      exact ih (i + 1) h' tk' oI₃ oC' ys' _ m₂' (by omega) (by omega) a1 a2 a3 ⟨hIc, hId⟩ hT' (fun p hp => (a4 p hp).2) a5 fin
/-- behind the outer iterable -/
def TwoSrc (prog : Program) (w : World) (A : Around) (env : Env) (scope : Scope) (cl : List (Str × Addr)) (h₀ : Heap) (L : Addr) (m : Str → Option Value) (elt it1 : Expr) (x0 x1 y : Str) (Q : Flow → Shared → Prop) (xv : Value) (s₁ : Shared) : Prop :=
  ∃ ax0 its0 T0 G, xv = .ref ax0 ∧ A.handled = none ∧ Fr h₀ L s₁.heap m ∧ News h₀ L s₁.heap T0 ∧ TupAt ax0 its0 T0 ∧ its0.size = 2 ∧ Mono G ∧
    ItOk prog w A env scope cl h₀ L m s₁ G it1 x0 its0 T0 ∧ EltOk prog w A env scope cl h₀ L m s₁ elt x0 x1 ∧
    ∀ D h tk ext ys, Fr h₀ L h (fun z => if z = y then some (.ref D) else m z) → News h₀ L h ((D, LCg.lst ys) :: (ext ++ T0)) → (∀ v ∈ ys, RowAt G (ext ++ T0) v) → ys.length ≤ 64 → Q .next { s₁ with heap := h, toks := tk }
theorem two_assign {elt it0 it1 : Expr} {x0 x1 y : Str} {p0 p1 py : Pos} {scope : Scope} {cl : List (Str × Addr)} {pos spos : Pos} {Q : Flow → Shared → Prop} (_F₀ : Fr h₀ L s.heap m) (hLe : env.locals = L)
    (hsw : swapsWith (two elt (.Name x0 p0) it0 (.Name x1 p1) it1 scope pos) (some (.Name y py)) spos.line env = pure true)
    (hclos : closureFor scope env = pure cl) (hcell : ∀ z ∈ scope.names, z.2 ≠ .cell) (hkind : scope.kind = .function)
    (hnames : ∀ z ∈ scope.names, z.2 = .local → scope.names.lookup z.1 = some .local) (hx0 : scope.names.lookup x0 = some .local) (hx1 : scope.names.lookup x1 = some .local) (hne : (x0 == x1) = false)
    (hy : env.kindOf y = some .local) (hp : (env.scope.kind == .class || (env.scope.kind == .module && env.locals != env.globals)) = false)
    (h : wpAny (model prog w) A (eval it0 env) (TwoSrc prog w A env scope cl h₀ L m elt it1 x0 x1 y Q) E s)
    (hs : ∀ env x, foldedSetIterable it0 env x = pure x) (hs1 : ∀ env x, foldedSetIterable it1 env x = pure x) :
    wpAny (model prog w) A (exec (.Assign [.Name y py] (two elt (.Name x0 p0) it0 (.Name x1 p1) it1 scope pos) spos) env) Q E s := by
  subst hLe
  rw [exec_Assign_Name_used _ _ _ _ hsw]
  refine wpAny_bind (wpAny_standAt (wpAny_bind ?_))
  show wpAny _ A (do let _ ← comprehension (two elt (.Name x0 p0) it0 (.Name x1 p1) it1 scope pos) scope env _ (newList []) false (eval it0 env) (some (assign (.Name y py) env))) _ _ s
  refine wpAny_bind (wpAny_mono (wpAny_comprehension_free (use := some (assign (.Name y py) env)) (Q := fun _ s' => Q .next s') rfl (hs _) hclos hkind hnames
    (wpAny_mono h (fun xv s₁ h₁ => ?_) fun _ _ e => e)) (fun _ s' hq => wpAny_pure (wpAny_pure hq)) fun _ _ e => e)
  obtain ⟨ax0, its0, T0, G, rfl, hh, F, N, hT, h2, hG, hit1, helt, fin⟩ := h₁
  have hl := hT.tup N
  refine wpAny_pyIter_tuple hl ?_
  have up : ∀ b o, s₁.heap.get? b = some o → (s₁.heap.push { cls := .type "tuple_iterator", data := .fields #[.ref ax0, .int 0 0] }).get? b = some o := fun b o e => Heap.get?_push_of_some _ e
  have F₂ := F.keeps up
  have N₂ : News h₀ env.locals (s₁.heap.push { cls := .type "tuple_iterator", data := .fields #[.ref ax0, .int 0 0] }) ((s₁.heap.objs.size, { cls := .type "tuple_iterator", data := .fields #[.ref ax0, .int 0 0] }) :: T0) := fun p hp => by
    rcases List.mem_cons.mp hp with rfl | hp
    · exact ⟨Heap.get?_push_size _ rfl, Nat.ne_of_gt F.ns.lt, next_is_new F⟩
    · exact N.grown up p hp
  have lt₂ : ∀ p ∈ T0, p.1 < s₁.heap.objs.size := fun p hp => Heap.lt_size (N p hp).1
  generalize hH : s₁.heap.push { cls := .type "tuple_iterator", data := .fields #[.ref ax0, .int 0 0] } = H at F₂ N₂ ⊢
  have hHs : H.objs.size = s₁.heap.objs.size + 1 := by rw [← hH, Heap.size_push]
  clear hH up
  refine wpAny_newObj_type (wpAny_newFunctionEnv hcell (by intro y hy; simp at hy) (fun h₁ hns₁ hsb₁ => ?_) hkind)
  dsimp only at hns₁ hsb₁ ⊢
  have hC : (H.push { cls := .type "list", dict := none, data := .seq ([] : List Value).toArray }).objs.size = H.objs.size + 1 := by rw [Heap.size_push]
  generalize hH2 : H.push { cls := .type "list", dict := none, data := .seq ([] : List Value).toArray } = H2 at hns₁ hsb₁ hC ⊢
  have keep : ∀ b o, H.get? b = some o → h₁.get? b = some o := fun b o e => hsb₁.extBut b o (by rw [hC]; exact Nat.ne_of_lt (Nat.lt_succ_of_lt (Heap.lt_size e))) (Heap.get?_push_of_some _ (hH2 ▸ Heap.get?_push_of_some _ e))
  have hD : h₁.get? H.objs.size = some (LCg.lst []) := hsb₁.extBut _ _ (by rw [hC]; exact Nat.ne_of_lt (Nat.lt_succ_self _)) (Heap.get?_push_of_some _ (hH2 ▸ Heap.get?_push_size _ rfl))
  obtain ⟨oC, heC, hoC⟩ := LCg.ns_obj hns₁
  have fresh : ∀ a, H.objs.size ≤ a → h₀.get? a = none := fun a ha => by
    cases e : h₀.get? a with
    | none => rfl
    | some o' => exact absurd (Heap.lt_size (F₂.keep a o' e)) (Nat.not_lt.mpr ha)
  have hLlt : env.locals < H.objs.size := F₂.ns.lt
  have N₃ : News h₀ env.locals h₁ ((s₁.heap.objs.size, { cls := .type "tuple_iterator", data := .fields #[.ref ax0, .int 0 0] }) :: (H2.objs.size, oC) :: (H.objs.size, LCg.lst []) :: ([] ++ T0)) := fun p hp => by
    rcases List.mem_cons.mp hp with rfl | hp
    · exact N₂.grown keep _ (.head _)
    · rcases List.mem_cons.mp hp with rfl | hp
      · exact ⟨heC, by rw [hC]; exact Nat.ne_of_gt (Nat.lt_succ_of_lt hLlt), fresh _ (by rw [hC]; exact Nat.le_succ _)⟩
      · rcases List.mem_cons.mp hp with rfl | hp
        · exact ⟨hD, Nat.ne_of_gt hLlt, fresh _ (Nat.le_refl _)⟩
        · exact N₂.grown keep _ (.tail _ hp)
  have sI : s₁.heap.objs.size ≠ H2.objs.size := by rw [hC, hHs]; exact Nat.ne_of_lt (Nat.lt_succ_of_lt (Nat.lt_succ_self _))
  have sD : s₁.heap.objs.size ≠ H.objs.size := by rw [hHs]; exact Nat.ne_of_lt (Nat.lt_succ_self _)
  have sC : H2.objs.size ≠ H.objs.size := by rw [hC]; exact Nat.ne_of_gt (Nat.lt_succ_self _)
  have go := two_outer (prog := prog) (w := w) (A := A) (s := s₁) (m := m) (env := env) (elt := elt) (it0 := it0) (it1 := it1) (p0 := p0) (p1 := p1) (scope := scope) (cl := cl) (pos := pos)
    (R := compPost (model prog w) A E (some (assign (.Name y py) env)) (fun _ s' => Q .next s') (.ref H.objs.size) H2.objs.size)
    hh hkind hx0 hx1 hne hG sI sD sC hs1 hit1 helt 2 0 h₁ (s₁.toks + ([] : List (Str × Value)).length) _ oC [] [] _ (by omega) (by simp) (F₂.keeps keep) N₃ hoC ⟨rfl, rfl⟩ hT
    (fun p hp => ⟨Nat.ne_of_lt (lt₂ p hp), by rw [hC, hHs]; exact Nat.ne_of_lt (Nat.lt_succ_of_lt (Nat.lt_succ_of_lt (lt₂ p hp))), by rw [hHs]; exact Nat.ne_of_lt (Nat.lt_succ_of_lt (lt₂ p hp))⟩) (fun _ h => nomatch h) ?_
  · exact codeAny_compStart_list go (wpAny_pyIter_tupleiter ⟨_, (N₃ _ (.head _)).1, rfl, rfl⟩ go)
  · intro h' tk' oC' ys' ext' m₂' a1 a2 a3 a4 a5 a6
    show wpAny _ A (assign (.Name y py) env (.ref H.objs.size)) _ _ _
    refine wpAny_assign_Name (wpAny_storeName_local hy a1.ns (fun h₂ hn₂ hs₂ => ?_) hp)
    have hL₀ : h₀.get? env.locals = none := Heap.get?_none_of_le a1.above
    have F₃ : Fr h₀ env.locals h₂ (fun z => if z = y then some (.ref H.objs.size) else m z) := ⟨hn₂, fun b o e => hs₂.extBut b o (fun q => by rw [q, hL₀] at e; cases e) (a1.keep b o e), a1.above⟩
    have NC := a2 _ (.head _)
    have nC : h₂.Ns H2.objs.size m₂' := (a3.ns NC.1).sameBut hs₂ NC.2.1
    refine ⟨m₂', nC, fun h'' hs'' => fin _ h'' _ ext' ys' (F₃.change hs'' NC.2.1 NC.2.2) (fun p hp => ?_) a5 a6⟩
    have z := a2 p (.tail _ hp)
    refine ⟨hs''.extBut _ _ ?_ (hs₂.extBut _ _ z.2.1 z.1), z.2⟩
    rcases List.mem_cons.mp hp with rfl | hp
    · exact Ne.symm sC
    · exact (a4 p hp).1
end
end

section
open PySem PySem.W PySem.Calls PyProof.Rows PySem.Spec
def Args (T : List (Addr × Obj)) (b c : Value) : Prop :=
  (∃ d t, NumIn T b d ∧ d.Ok ∧ c = .str (Str.ofString "1") t) ∨ (∃ d t, NumIn T c d ∧ d.Ok ∧ b = .str (Str.ofString "1") t) ∨ (∃ t u, b = .str (Str.ofString "a") t ∧ c = .str (Str.ofString "b") u)
theorem Args.mono {T T' : List (Addr × Obj)} {b c : Value} (hs : ∀ p ∈ T, p ∈ T') (h : Args T b c) : Args T' b c := by
  rcases h with ⟨d, t, h1, h2, h3⟩ | ⟨d, t, h1, h2, h3⟩ | h
  · exact .inl ⟨d, t, h1.mono hs, h2, h3⟩
  · exact .inr (.inl ⟨d, t, h1.mono hs, h2, h3⟩)
  · exact .inr (.inr h)
abbrev lst2 (b c : Value) : Obj := { cls := .type "list", data := .seq [b, c].toArray }
abbrev tup3 (a b c : Value) : Obj := { cls := .type "tuple", data := .seq [a, b, c].toArray }
/-- a row of the last table: one of the two functions, and a pair of arguments -/
def ArgG (T : List (Addr × Obj)) (f a : Value) : Prop := (f = .ref 283 ∨ f = .ref 290) ∧ ∃ l b c, a = .ref l ∧ (l, (lst2 b c : Obj)) ∈ T ∧ Args T b c
theorem ArgG.mono : Mono ArgG := fun T T' f a hs h => by
  obtain ⟨hf, l, b, c, e, hm, ha⟩ := h
  exact ⟨hf, l, b, c, e, hs _ hm, ha.mono hs⟩
theorem Shift.sup {ext l l' : List (Addr × Obj)} (h : Shift ext l l') : ∀ p ∈ ext ++ l, p ∈ l' := by
  induction h with
  | base T => exact fun _ h => h
  | cons k _ ih =>
    intro p hp
    rcases List.mem_append.mp hp with hp | hp
    · exact .tail _ (ih p (List.mem_append_left _ hp))
    · rcases List.mem_cons.mp hp with rfl | hp
      · exact .head _
      · exact .tail _ (ih p (List.mem_append_right _ hp))
theorem shift3 {h₀ h : Heap} {L : Addr} {x y z : Addr × Obj} {ext l l' : List (Addr × Obj)} (N : News h₀ L h (x :: y :: z :: (ext ++ l))) (sh : Shift ext l l') : News h₀ L h (x :: y :: z :: l') :=
  news_sub N fun p hp => by
    rcases List.mem_cons.mp hp with rfl | hp
    · exact .head _
    · rcases List.mem_cons.mp hp with rfl | hp
      · exact .tail _ (.head _)
      · rcases List.mem_cons.mp hp with rfl | hp
        · exact .tail _ (.tail _ (.head _))
        · exact .tail _ (.tail _ (.tail _ (sh.sub p hp)))
theorem shift3_k {h₀ h : Heap} {L : Addr} {x y z : Addr × Obj} {ext l l' : List (Addr × Obj)} {G : Prop} (N : News h₀ L h (x :: y :: z :: (ext ++ l))) (sh : Shift ext l l') (k : Shift ext l l' → News h₀ L h (x :: y :: z :: l') → G) : G := k sh (shift3 N sh)
theorem shift1 {h₀ h : Heap} {L : Addr} {x : Addr × Obj} {ext l l' : List (Addr × Obj)} (N : News h₀ L h (x :: (ext ++ l))) (sh : Shift ext l l') : News h₀ L h (x :: l') :=
  news_sub N fun p hp => by
    rcases List.mem_cons.mp hp with rfl | hp
    · exact .head _
    · exact .tail _ (sh.sub p hp)
theorem shift1_k {h₀ h : Heap} {L : Addr} {x : Addr × Obj} {ext l l' : List (Addr × Obj)} {G : Prop} (N : News h₀ L h (x :: (ext ++ l))) (sh : Shift ext l l') (k : Shift ext l l' → News h₀ L h (x :: l') → G) : G := k sh (shift1 N sh)
section
variable {h₀ h' : Heap} {L : Addr} {m : Str → Option Value} {s : Shared}
/-- the end of the inner iterable: four new objects -/
theorem it_end {v0 : Value} {I C D : Addr} {oI oC oD : Obj} {ext l l' : List (Addr × Obj)} {h' : Heap} {tk' : Nat} {ax l1 l2 l3 : Addr} {b1 c1 b2 c2 b3 c3 : Value} (sh : Shift ext l l') (F : Fr h₀ L h' m)
    (N : News h₀ L h' ((ax, tup3 (.ref l1) (.ref l2) (.ref l3)) :: (l3, lst2 b3 c3) :: (l2, lst2 b2 c2) :: (l1, lst2 b1 c1) ::
      (I, oI) :: (C, oC) :: (D, oD) :: l'))
    (hf : v0 = .ref 283 ∨ v0 = .ref 290) (h1 : Args l' b1 c1) (h2 : Args l' b2 c2) (h3 : Args l' b3 c3)
    (x1 : AllLt l1 ((I, oI) :: (C, oC) :: (D, oD) :: l')) (x2 : AllLt l2 ((l1, lst2 b1 c1) :: (I, oI) :: (C, oC) :: (D, oD) :: l')) (x3 : AllLt l3 ((l2, lst2 b2 c2) :: (l1, lst2 b1 c1) :: (I, oI) :: (C, oC) :: (D, oD) :: l'))
    (x4 : AllLt ax ((l3, lst2 b3 c3) :: (l2, lst2 b2 c2) :: (l1, lst2 b1 c1) :: (I, oI) :: (C, oC) :: (D, oD) :: l')) :
    ItEnd h₀ L m s ArgG v0 I C D oI oC oD (ext ++ l) (.ref ax) { s with heap := h', toks := tk' } := by
  have sub : ∀ p ∈ l', p ∈ [(ax, tup3 (.ref l1) (.ref l2) (.ref l3)), (l3, lst2 b3 c3), (l2, lst2 b2 c2), (l1, lst2 b1 c1)] ++ (ext ++ l) :=
    fun p hp => List.mem_append_right _ (sh.sub p hp)
  refine ⟨h', tk', ax, #[.ref l1, .ref l2, .ref l3], [(ax, tup3 (.ref l1) (.ref l2) (.ref l3)), (l3, lst2 b3 c3), (l2, lst2 b2 c2), (l1, lst2 b1 c1)], rfl, rfl, F, news_sub N fun p hp => ?_, fun p hp => ?_, rfl, ⟨_, .head _, rfl, _, rfl⟩, fun a ha => ?_⟩
  · rcases List.mem_append.mp hp with hp | hp
    · exact List.mem_append_left (bs := (I, oI) :: (C, oC) :: (D, oD) :: l') hp
    · refine .tail _ (.tail _ (.tail _ (.tail _ ?_)))
      rcases List.mem_cons.mp hp with rfl | hp
      · exact .head _
      · rcases List.mem_cons.mp hp with rfl | hp
        · exact .tail _ (.head _)
        · rcases List.mem_cons.mp hp with rfl | hp
          · exact .tail _ (.tail _ (.head _))
          · exact .tail _ (.tail _ (.tail _ (sh.sup p hp)))
  · simp only [List.mem_cons, List.not_mem_nil, or_false] at hp
    rcases hp with rfl | rfl | rfl | rfl
    · exact ⟨x4.2.2.2.1, x4.2.2.2.2.1, x4.2.2.2.2.2.1⟩
    · exact ⟨x3.2.2.1, x3.2.2.2.1, x3.2.2.2.2.1⟩
    · exact ⟨x2.2.1, x2.2.2.1, x2.2.2.2.1⟩
    · exact ⟨x1.1, x1.2.1, x1.2.2.1⟩
  · simp only [List.mem_cons, List.not_mem_nil, or_false] at ha
    rcases ha with rfl | rfl | rfl
    · exact ⟨hf, l1, b1, c1, rfl, .tail _ (.tail _ (.tail _ (.head _))), h1.mono sub⟩
    · exact ⟨hf, l2, b2, c2, rfl, .tail _ (.tail _ (.head _)), h2.mono sub⟩
    · exact ⟨hf, l3, b3, c3, rfl, .tail _ (.head _), h3.mono sub⟩
end
end

section
open PySem PySem.W PySem.Calls PyProof.Rows PySem.Spec
section
variable {prog : Program} {w : World} {A : Around} {E : Value → Shared → Prop} {s : Shared} {h₀ : Heap} {L : Addr} {m : Str → Option Value} {env : Env}
/-- a test that takes nothing -/
def NoEnd (h₀ : Heap) (L : Addr) (m : Str → Option Value) (s : Shared) (news : List (Addr × Obj)) (ok : Bool) (s₂ : Shared) : Prop :=
  ok = false ∧ ∃ h' tk', s₂ = { s with heap := h', toks := tk' } ∧ Fr h₀ L h' m ∧ News h₀ L h' news
theorem comp_none {ct elt : Expr} {x : Str} {scope : Scope} {cl : List (Str × Addr)} {news : List (Addr × Obj)} {vs : List Value} {S : List (Addr × Obj) → Prop} {P : Nat → Value → Prop} {Fin : List Value → List (Addr × Obj) → Prop} (hP : ∀ i v, P i v → v ∈ vs)
    (turn : ∀ (v : Value) (I : Addr) (oI : Obj) (C : Addr) (oC : Obj) (D : Addr) (m₂ : Str → Option Value) (h : Heap) (tk : Nat) (E' : Value → Shared → Prop), v ∈ vs → LCg.NsObj oC m₂ → m₂ x = some v → Fr h₀ L h m → News h₀ L h ((I, oI) :: (C, oC) :: (D, LCg.lst []) :: news) →
      wpAny (model prog w) A (isTrue ct (compEnvC scope cl C env) (eval ct (compEnvC scope cl C env))) (NoEnd h₀ L m s ((I, oI) :: (C, oC) :: (D, LCg.lst []) :: news)) E' { s with heap := h, toks := tk })
    (hS : S news) (fin : Fin [] news) : ∀ k i, LCt.CompRestT prog w A h₀ L m env ct elt x scope cl s S P Fin k i [] news := by
  intro k
  induction k with
  | zero => exact fun i => LCt.CompRestT.zero fin
  | succ k ih =>
    intro i
    refine LCt.CompRestT.succ fun v I oI C oC D m₂ h tk E' hv hC hx F N off ne => ?_
    refine wpAny_mono (turn v I oI C oC D m₂ h tk E' (hP i v hv) hC hx F N) (fun ok s₂ hh => ?_) fun _ _ e => e
    obtain ⟨rfl, h', tk', rfl, F', N'⟩ := hh
    rw [if_neg (by decide)]
    exact end_same F' N' off hS (ih (i + 1))
end
theorem bad_of {T : List (Addr × Obj)} {b c : Value} (h : Args T b c) : BadPair T b c := by
  rcases h with ⟨d, t, h1, h2, h3⟩ | ⟨d, t, h1, h2, h3⟩ | ⟨t, u, h1, h2⟩
  · exact .inr ⟨d, _, t, h1, h3⟩
  · exact .inl ⟨_, t, h3⟩
  · exact .inl ⟨_, t, h1⟩
theorem BadPair.mono {T T' : List (Addr × Obj)} {b c : Value} (hs : ∀ p ∈ T, p ∈ T') (h : BadPair T b c) : BadPair T' b c := by
  rcases h with h | ⟨d, x, t, h1, h2⟩
  · exact .inl h
  · exact .inr ⟨d, x, t, h1.mono hs, h2⟩
/-- both functions at once -/
theorem refused_any {f : Addr} (wv : Value) (al : Addr) (kl : Nat) (v1 v2 : Value) (news : List (Addr × Obj)) (hf : f = 283 ∨ f = 290) (hb : BadPair news v1 v2) (hm : (al, ({ cls := .type "list", data := .seq #[v1, v2] kl } : Obj)) ∈ news) :
    Con0 10 375 [.ref f, wv, .ref al] news (fun r news' => r = .bool true ∧ news = news') := by
  rcases hf with rfl | rfl
  · exact refused_min wv al kl v1 v2 news hb hm
  · exact refused_max wv al kl v1 v2 news hb hm
end

section
structure Box (P : Prop) : Prop where
  out : P
/-- a proof cut in two: what is left, and what it gives -/
structure Joint (C : Prop) where
  P : Prop
  go : Box P → C
structure Joint2 (C : Prop) where
  P : Prop
  Q : Prop
  go : Box P → Box Q → C
end

section
open PySem PySem.W PyProof.Rows
set_option maxRecDepth 100000 in
set_option maxHeartbeats 0 in
noncomputable def JL1 : Joint PySem.Challenge.rw_pf0009_01.Holds := by
  refine' ⟨_, fun hb => ?walk⟩
  case walk =>
    k_with_none
    k_with "call ref" => (k_here; (with_reducible show wpAny _ _ (call (Value.ref 343) _) _ _ _); k_dflt (refine' world_c _ _ _ _ _ _ _ _ _ _ _ _ _ _ _ _ _ _ _ _ _ _ ?k1 ?k2 ?k3 ?k4 ?k5 ?kK ?_; (case k1 => k_asm); (case k2 => k_asm); (case k3 => k_asm); (case k4 => k_asm); (case k5 => k_asm); (case kK => exact rfl); intro h9 tk9 wx9 wd9 es9 en9 F9 N9 l9 l8 g9 g8; (try k_lt l8); (try k_lt2 l9); (try dsimp only); (try k_fold)))
    k_with "call ref" => (k_here; (with_reducible show wpAny _ _ (call (Value.ref 354) _) _ _ _); k_dflt (refine' Con.use ?k1 ?k2 ?k3 ?k4 ?k5 ?kK (next_u _ _ _ _ _ _ _ _ _ _ _ _ ?p3 ?p4 ?p5 ?p6 ?p7 ?p8 ?p0 ?p1 ?p2) ?kd ?ku ?_; (case k1 => k_asm); (case k2 => k_asm); (case k3 => k_asm); (case k4 => k_asm); (case k5 => k_asm); (case kK => first | exact rfl | assumption); (case p0 => (intro u; k_upd) ); (case p1 =>  k_ne ); (case p2 =>  (repeat (first | exact List.Mem.head _ | refine' List.Mem.tail _ ?_)) ); (case p3 =>  l_ints ); (case p4 =>  omega ); (case p5 =>  omega ); (case p6 =>  omega ); (case p7 =>  omega ); (case p8 =>  omega); (case kd => ktr_room); (case ku => ktr_units); intro r9 n9 h9 tk9 F9 N9 R9; obtain ⟨x9, t9, u9, e9, g9, q9, e8⟩ := R9; subst e9; subst e8;(try dsimp only); (try k_fold)))
    k_with "call ref" => (k_here; (with_reducible show wpAny _ _ (call (Value.ref 354) _) _ _ _); k_dflt (refine' Con.use ?k1 ?k2 ?k3 ?k4 ?k5 ?kK (next_c _ _ _ _ _ _ _ _ _ _ _ ?p0 ?p1 ?p2 ?p3 ?p4 ?p5 ?p6 ?p7) ?kd ?ku ?_; (case k1 => k_asm); (case k2 => k_asm); (case k3 => k_asm); (case k4 => k_asm); (case k5 => k_asm); (case kK => first | exact rfl | assumption); (case p0 => l_ints ); (case p1 =>  omega ); (case p2 =>  omega ); (case p3 =>  omega ); (case p4 =>  omega ); (case p5 =>  omega ); (case p6 =>  (refine off_one ?_; k_all) ); (case p7 =>  (repeat (first | exact List.Mem.head _ | refine' List.Mem.tail _ ?_))); (case kd => ktr_room); (case ku => ktr_units); intro r9 n9 h9 tk9 F9 N9 R9; obtain ⟨x9, t9, u9, e9, g9, q9, e8⟩ := R9; subst e9; subst e8;(try dsimp only); (try k_fold)))
    k_with "call type:range" => (k_here; (rename Fr _ _ _ _ => F'); (rename News _ _ _ _ => N'); with_unfolding_all refine range1_rows F' N' ?_; (intro h' tk' t' u' v' R' F' N' K'); clear K'; (try k_sweep))
    refine Mine.hd ?_
    k_go0
    all_goals (try k_fold)
    iterate 95 (first | (k_unfold; (try dsimp only)) | (k_end; wrow_close) | walk1 | (dsimp only; walk1) | (leave1; try dsimp only))
    all_goals (try k_data)
    have F' := trivial; have F9 := trivial; have K' := trivial; have N' := trivial; have N9 := trivial; have R' := trivial; have R9 := trivial; have e8 := trivial; have e9 := trivial; have ek := trivial; have ek0 := trivial; have en9 := trivial; have es9 := trivial; have g8 := trivial; have g9 := trivial; have h' := trivial; have h9 := trivial; have k_fold := trivial; have k_lt := trivial; have k_lt2 := trivial; have k_ne := trivial; have k_sweep := trivial; have k_upd := trivial; have kd := trivial; have ktr_room := trivial; have ktr_units := trivial; have ku := trivial; have l8 := trivial; have l9 := trivial; have l_ints := trivial; have n9 := trivial; have p1 := trivial; have p2 := trivial; have p3 := trivial; have p4 := trivial; have p5 := trivial; have p6 := trivial; have p7 := trivial; have p8 := trivial; have q9 := trivial; have qk := trivial; have qk0 := trivial; have r9 := trivial; have range1_rows := trivial; have refine := trivial; have refine' := trivial; have subst := trivial; have t' := trivial; have t9 := trivial; have tk := trivial; have tk' := trivial; have tk9 := trivial; have u := trivial; have u' := trivial; have u9 := trivial; have v' := trivial; have wd9 := trivial; have with_unfolding_all := trivial; have wx9 := trivial; have x9 := trivial
    repeat (rename_i zz9; revert zz9)
    exact hb.out
end

section
open PySem PySem.W PyProof.Rows
set_option maxRecDepth 100000 in
set_option maxHeartbeats 8000000 in
theorem off_two {T : List (Addr × Obj)} {lo a : Addr} (h : ∀ p ∈ T, lo < p.1) (ha : a < lo) : OwnOff T [a, lo] := off_of h _ fun b hb => by
  rcases List.mem_cons.mp hb with rfl | hb
  · exact Nat.le_of_lt ha
  · rw [List.mem_singleton.mp hb]
    exact Nat.le_refl _
theorem off_three {T : List (Addr × Obj)} {lo a I : Addr} (h : ∀ p ∈ T, lo < p.1) (ha : a < lo) (hI : ∀ p ∈ T, p.1 ≠ I) : OwnOff T [a, lo, I] := fun p hp b hb => by
  rcases List.mem_cons.mp hb with rfl | hb
  · exact fun e => off_two h ha p hp _ (.head _) e
  rcases List.mem_cons.mp hb with rfl | hb
  · exact fun e => off_two h ha p hp _ (.tail _ (.head _)) e
  · rw [List.mem_singleton.mp hb]
    exact hI p hp
theorem J1.end {m₀ m : Str → Option Value} (h : ∀ y, y ≠ Str.ofString "turn" → m y = m₀ y) : m = fun y => if y = Str.ofString "turn" then m (Str.ofString "turn") else m₀ y := by
  funext y
  by_cases e : y = Str.ofString "turn"
  · simp [e]
  · simp [e, h y e]
theorem NumsIn.front {news : List (Addr × Obj)} {vs : List Value} {ds : List Num} (h : NumsIn news vs ds) (hl : 0 < vs.length) : ∃ v d vs' ds', vs = v :: vs' ∧ ds = d :: ds' ∧ NumIn news v d ∧ d.Ok ∧ NumsIn news vs' ds' := by
  cases h with
  | nil => exact absurd hl (Nat.lt_irrefl 0)
  | cons a b c => exact ⟨_, _, _, _, rfl, rfl, a, b, c⟩
theorem number_c (d l nl : Addr) (k g : Int) (t tg : Tok) (c c' cn : Nat) (vs : List Value) (ns : List Int) (rest : List (Addr × Obj)) (hv : IntsAre vs ns) (h0 : 0 ≤ k) (h1 : k < 1000) (hlen : ns.length < 64) (hg : 2 ≤ g) (hg' : g ≤ 7)
   (hne : OwnOff rest [d]) (hm : (l, ({ cls := .type "list", data := .seq vs.toArray c' } : Obj)) ∈ rest) (nvs : List Value) (nds : List Num) (hnl : (nl, ({ cls := .type "list", data := .seq nvs.toArray cn } : Obj)) ∈ rest) (hnn : NumsIn rest nvs nds) :
   Con 10 368 [.ref d, .ref nl, .int g tg] ((d, W.listOf #[.int k t, .ref l] c) :: rest) (NumR d l c (k + 1 + 1) rest) := by
  by_cases e : nvs = []
  · subst e
    exact number0_c d l nl k g t tg c c' cn vs ns rest hv h0 h1 hlen hg hg' hne hm hnl
  · exact numberS_c d l nl k g t tg c c' cn vs ns rest hv h0 h1 hlen hg hg' hne hm nvs nds hnl hnn e
theorem J1.next {m₀ m : Str → Option Value} {fa fb T : List (Addr × Obj)} {nl dr ls : Addr} {u : Tok} {vs : List Value} {ds : List Num} {r : Value} {i cn : Nat} (hm : ∀ y, y ≠ Str.ofString "turn" → m y = m₀ y) (hn : NumsIn T (vs ++ [r]) ds) (hl : vs.length = i) (hT : ∀ p ∈ T, nl < p.1) :
    J1 m₀ fa fb nl dr ls (i + 1) m ((nl, W.listOf ((List.toArray vs).push r) cn) :: (fa ++ (dr, W.listOf #[.int (3 + 2 * (i : Int) + 1 + 1) u, .ref ls] 0) :: (fb ++ T))) :=
  ⟨vs ++ [r], ds, cn, u, T, hm, by rw [List.push_toArray, show (3 + 2 * (i : Int) + 1 + 1) = 3 + 2 * ((i + 1 : Nat) : Int) by omega], hn, by rw [List.length_append, hl]; rfl, hT⟩
set_option maxRecDepth 100000 in
set_option maxHeartbeats 0 in
noncomputable def JL2 : Joint JL1.P := by
  refine' ⟨_, fun hb => ?walk⟩
  case walk =>
    k_with_none
    k_with "getAttr ref" => (k_here; k_dflt (refine' get_own ?k1 ?k2 ?k3 ?k4 ?k5 ?k6 ?k7 ?k8 ?k9 ?_; (case k1 => k_asm); (case k2 => k_asm); (case k3 => k_inst); (case k4 => k_is); (case k5 => k_is); (case k6 => k_is); (case k7 => k_is); (case k8 => assumption); (case k9 => k_handed); k_whole))
    intro w0 s0 s1
    intros
    rename_i c6 c5 c4 c3 c2 c1o e6 e5 e4 e3 e2 e1 X0 qk0 ek0 ls ws hh1 hI hC hL0 l1 dr hh2 l2 hh3 F1 N1 tkA h9A tk9A xb tA uA gbA gbB qk1 ek1 h9B tk9B xd tdg uB gdA gdB qk2 ek2 h9C tk9C wx wd es en hgb hgd l8 l9 nl hh4 l10 tp hh5 l11 hh6 hh7 ow dow hh8 tkD h9D tk9D xn tD uD gnA gnB qk3 ek3 hr tkr tr ur vr RR FF NN
    show wpAny _ _ (pyIter _) (fun it s₂ => LoopAtV _ _ _ _ _ _ _ _ _ it s₂) _ _
    refine range_inv (n := (1 + xn).toNat) (news := (nl, W.listOf #[] 0) :: ([(wx, instObj 343 wd), (wd, dictOf es en)] ++ (dr, W.listOf #[.int (0 + 1 + 1 + 1) uD, .ref ls] 0) :: [(ls, W.listOf (List.toArray ws) 0), (s1.heap.objs.size + 1 + 1 + 1 + 1 + 1 + 1, c6), (s1.heap.objs.size + 1 + 1 + 1 + 1 + 1, c5), (s1.heap.objs.size + 1 + 1 + 1 + 1, c4), (s1.heap.objs.size + 1 + 1 + 1, c3), (s1.heap.objs.size + 1 + 1, c2), (s1.heap.objs.size + 1, ow)])) (J1 _ _ _ nl dr ls) rfl RR (small_one (by decide) (by decide) (by omega) (by omega)) ?sz FF (news_sub NN fun p hp => .tail _ hp) J1.start ?turn ?done
    case sz => rw [rangeSize_nat]; congr 2; omega
    case turn =>
      intro I hII i t m₁ news₁ h tk o hin hJ hoff F₁ N₁
      obtain ⟨vs, ds, cn, u, T, hm, rfl, hn, hl, hT⟩ := hJ
      rw [J1.map hm] at F₁
      simp only [List.cons_append, List.nil_append] at N₁
      clear FF NN
      k_fold
      have hIdr := ltN (hII (dr, W.listOf #[.int (0 + 1 + 1 + 1) uD, .ref ls] 0) (by repeat (first | exact .head _ | refine .tail _ ?_)))
      have hInl := ltN (hII (nl, W.listOf #[] 0) (by repeat (first | exact .head _ | refine .tail _ ?_)))
      have hIls := ltN (hII (ls, W.listOf (List.toArray ws) 0) (by repeat (first | exact .head _ | refine .tail _ ?_)))
      have hIwx := ltN (hII (wx, instObj 343 wd) (by repeat (first | exact .head _ | refine .tail _ ?_)))
      have hIwd := ltN (hII (wd, dictOf es en) (by repeat (first | exact .head _ | refine .tail _ ?_)))
      have hdn : dr < nl := by
        first
        | exact ltN (l10 (dr, _) (by repeat (first | exact .head _ | refine .tail _ ?_)))
        | (show @LT.lt Nat _ _ _; omega)
      have hTo : OwnOff T [dr, nl] := off_two hT hdn
      iterate 20 (first | (k_unfold; (try dsimp only)) | (k_end; wrow_close) | walk1 | (dsimp only; walk1) | (leave1; try dsimp only))
      k_dflt (refine' Con.use (news := (dr, W.listOf #[.int (3 + 2 * i) u, .ref ls] 0) :: ((I, o) :: (nl, W.listOf (List.toArray vs) cn) :: (wx, instObj 343 wd) :: (wd, dictOf es en) :: (ls, W.listOf (List.toArray ws) 0) :: (s1.heap.objs.size + 1 + 1 + 1 + 1 + 1 + 1, c6) :: (s1.heap.objs.size + 1 + 1 + 1 + 1 + 1, c5) :: (s1.heap.objs.size + 1 + 1 + 1 + 1, c4) :: (s1.heap.objs.size + 1 + 1 + 1, c3) :: (s1.heap.objs.size + 1 + 1, c2) :: (s1.heap.objs.size + 1, ow) :: T)) ?k1 ?k2 ?k3 ?k4 ?k5 ?kK (number_c dr ls nl (3 + 2 * i) (2 + xd) u _ 0 0 cn ws _ ((I, o) :: (nl, W.listOf (List.toArray vs) cn) :: (wx, instObj 343 wd) :: (wd, dictOf es en) :: (ls, W.listOf (List.toArray ws) 0) :: (s1.heap.objs.size + 1 + 1 + 1 + 1 + 1 + 1, c6) :: (s1.heap.objs.size + 1 + 1 + 1 + 1 + 1, c5) :: (s1.heap.objs.size + 1 + 1 + 1 + 1, c4) :: (s1.heap.objs.size + 1 + 1 + 1, c3) :: (s1.heap.objs.size + 1 + 1, c2) :: (s1.heap.objs.size + 1, ow) :: T) hI ?p1 ?p2 ?p3 ?p4 ?p5 ?p6 ?p7 vs ds ?p8 ?p9) ?kd ?ku ?_)
      (case k1 => k_asm)
      (case k2 => k_asm)
      (case k3 => k_asm)
      (case k4 => refine' news_sub ?nn ?ss; (case nn => k_asm); exact sub_cons (by repeat (first | exact .head _ | refine .tail _ ?_)) (sub_cons (.head _) (sub_cons (by repeat (first | exact .head _ | refine .tail _ ?_)) (sub_cons (by repeat (first | exact .head _ | refine .tail _ ?_)) (sub_cons (by repeat (first | exact .head _ | refine .tail _ ?_)) (fun p hp => by repeat (first | exact hp | refine .tail _ ?_)))))))
      (case k5 => k_asm)
      (case kK => exact rfl)
      (case p1 => omega)
      (case p2 => omega)
      (case p3 => omega)
      (case p4 => omega)
      (case p5 => omega)
      (case p6 => refine off_one ?_; k_all)
      (case p7 => exact (by repeat (first | exact .head _ | refine .tail _ ?_)))
      (case p8 => exact (by repeat (first | exact .head _ | refine .tail _ ?_)))
      (case p9 => exact hn.mono (fun p hp => by repeat (first | exact hp | refine .tail _ ?_)))
      (case kd => first | (simp only [depth_deeper, depth_caller, recursionLimit]; omega) | ktr_room)
      (case ku => first | (simp only [units_deeper, units_caller, cLine]; omega) | ktr_units)
      intro r nw h9 tk9 F9 N9 R9
      obtain ⟨u2, ext, dd, hin2, hok2, hext, rfl⟩ := R9
      have N10 := news_sub N9 (perm1 (I, o) (nl, W.listOf (List.toArray vs) cn) (wx, instObj 343 wd) (wd, dictOf es en) (dr, W.listOf #[.int (3 + 2 * i + 1 + 1) u2, .ref ls] 0) (ls, W.listOf (List.toArray ws) 0) (_, c6) (_, c5) (_, c4) (_, c3) (_, c2) (_, ow) ext T)
      clear N9 N₁ F₁
      have hn2 := (hn.mono (fun p hp => List.mem_append_right ext hp)).snoc (hin2.mono (fun p hp => List.mem_append_left T hp)) hok2
      have hT2 : ∀ p ∈ ext ++ T, nl < p.1 := fun p hp => (List.mem_append.mp hp).elim (fun h => (hext p h).2 _ (.tail _ (.head _))) (hT p)
      have hTI : ∀ p ∈ ext ++ T, p.1 ≠ I := fun p hp => (List.mem_append.mp hp).elim (fun h => Nat.ne_of_gt ((hext p h).2 _ (.head _))) (fun h => hoff p (.tail _ (List.mem_append_right _ (.tail _ (List.mem_append_right _ h)))))
      generalize ext ++ T = T2 at *
      have hTo2 : OwnOff T2 [dr, nl, I] := off_three hT2 hdn hTI
      (try dsimp only)
      (try k_fold)
      iterate 1 (first | (k_unfold; (try dsimp only)) | (k_end; wrow_close) | walk1 | (dsimp only; walk1) | (leave1; try dsimp only))
      refine' append_K (its := List.toArray vs) F9 N10 (Upd.tail ?ua (Upd.head ?ub)) ?_ ?uz
      case ua => show @Ne Nat _ _; omega
      case ub => k_all
      case uz => rw [List.size_toArray]; exact Nat.le_trans (Nat.le_of_lt (by omega : vs.length < 8)) (by decide)
      intro h' F' N'
      refine wpAny_execs_nil ?_
      refine ⟨h', _, _, _, rfl, F', N', ?off, J1.next (fun y hy => by simp [hy]) hn2 hl hT2⟩
      case off => k_all
    case done =>
      intro m₁ news₁ h tk hJ F₁ N₁
      obtain ⟨vs, ds, cn, u, T, hm, rfl, hn, hl, hT⟩ := hJ
      have hdn : dr < nl := by
        first
        | exact ltN (l10 (dr, _) (by repeat (first | exact .head _ | refine .tail _ ?_)))
        | (show @LT.lt Nat _ _ _; omega)
      rw [J1.end hm] at F₁
      generalize m₁ (Str.ofString "turn") = mt at F₁
      clear hm
      simp only [List.cons_append, List.nil_append] at N₁
      have hTo : OwnOff T [nl, dr, ls, wx, wd, s1.heap.objs.size + 1 + 1 + 1 + 1 + 1 + 1, s1.heap.objs.size + 1 + 1 + 1 + 1 + 1, s1.heap.objs.size + 1 + 1 + 1 + 1, s1.heap.objs.size + 1 + 1 + 1, s1.heap.objs.size + 1 + 1, s1.heap.objs.size + 1] := off_of hT _ (by
        intro a ha
        simp only [List.mem_cons, List.not_mem_nil, or_false] at ha
        rcases ha with e | e | e | e | e | e | e | e | e | e | e <;> (rw [e]; show @LE.le Nat _ _ _; omega))
      obtain ⟨v0, d0, vs, ds, rfl, rfl, hn0, ho0, hn⟩ := hn.front (by omega)
      have hl8 : vs.length < 7 := by rw [List.length_cons] at hl; omega
      clear hl FF NN hh7 RR
      (try dsimp only)
      (try k_fold)
      have F' := trivial; have F1 := trivial; have F9 := trivial; have FF := trivial; have F₁ := trivial; have I := trivial; have N' := trivial; have N1 := trivial; have N10 := trivial; have N9 := trivial; have NN := trivial; have N₁ := trivial; have OwnOff := trivial; have R9 := trivial; have RR := trivial; have T := trivial; have T2 := trivial; have X0 := trivial; have a := trivial; have c1o := trivial; have c2 := trivial; have c3 := trivial; have c4 := trivial; have c5 := trivial; have c6 := trivial; have cn := trivial; have d0 := trivial; have dd := trivial; have dictOf := trivial; have dow := trivial; have dr := trivial; have ds := trivial; have e := trivial; have e1 := trivial; have e2 := trivial; have e3 := trivial; have e4 := trivial; have e5 := trivial; have e6 := trivial; have ek := trivial; have ek0 := trivial; have ek1 := trivial; have ek2 := trivial; have ek3 := trivial; have elim := trivial; have en := trivial; have es := trivial; have ext := trivial; have front := trivial; have gbA := trivial; have gbB := trivial; have gdA := trivial; have gdB := trivial; have gnA := trivial; have gnB := trivial; have h := trivial; have h' := trivial; have h9 := trivial; have h9A := trivial; have h9B := trivial; have h9C := trivial; have h9D := trivial; have hC := trivial; have hI := trivial; have hII := trivial; have hIdr := trivial; have hIls := trivial; have hInl := trivial; have hIwd := trivial; have hIwx := trivial; have hJ := trivial; have hL0 := trivial; have hT := trivial; have hT2 := trivial; have hTI := trivial; have hTo := trivial; have hTo2 := trivial; have ha := trivial; have hdn := trivial; have heap := trivial; have hext := trivial; have hgb := trivial; have hgd := trivial; have hh1 := trivial; have hh2 := trivial; have hh3 := trivial; have hh4 := trivial; have hh5 := trivial; have hh6 := trivial; have hh7 := trivial; have hh8 := trivial; have hin := trivial; have hin2 := trivial; have hl := trivial; have hl8 := trivial; have hm := trivial; have hn := trivial; have hn0 := trivial; have hn2 := trivial; have ho0 := trivial; have hoff := trivial; have hok2 := trivial; have hp := trivial; have hr := trivial; have hy := trivial; have i := trivial; have instObj := trivial; have int := trivial; have it := trivial; have l1 := trivial; have l10 := trivial; have l11 := trivial; have l2 := trivial; have l8 := trivial; have l9 := trivial; have le := trivial; have length := trivial; have length_cons := trivial; have listOf := trivial; have ls := trivial; have mem_append := trivial; have mem_append_left := trivial; have mem_append_right := trivial; have mono := trivial; have mp := trivial; have mt := trivial; have m₁ := trivial; have ne_of_gt := trivial; have news_sub := trivial; have news₁ := trivial; have nl := trivial; have nw := trivial; have o := trivial; have objs := trivial; have off_of := trivial; have off_three := trivial; have off_two := trivial; have ow := trivial; have p := trivial; have perm1 := trivial; have qk := trivial; have qk0 := trivial; have qk1 := trivial; have qk2 := trivial; have qk3 := trivial; have r := trivial; have ref := trivial; have refine := trivial; have s0 := trivial; have s1 := trivial; have size := trivial; have snoc := trivial; have s₂ := trivial; have t := trivial; have tA := trivial; have tD := trivial; have tdg := trivial; have tk := trivial; have tk9 := trivial; have tk9A := trivial; have tk9B := trivial; have tk9C := trivial; have tk9D := trivial; have tkA := trivial; have tkD := trivial; have tkr := trivial; have toArray := trivial; have tp := trivial; have tr := trivial; have u := trivial; have u2 := trivial; have uA := trivial; have uB := trivial; have uD := trivial; have ur := trivial; have v0 := trivial; have vr := trivial; have vs := trivial; have w0 := trivial; have wd := trivial; have ws := trivial; have wx := trivial; have xb := trivial; have xd := trivial; have xn := trivial; have y := trivial
      repeat (rename_i zz9; revert zz9)
      exact hb.out
end

section
open PySem PySem.W PyProof.Rows
set_option maxRecDepth 100000 in
set_option maxHeartbeats 0 in
noncomputable def JL3 : Joint2 JL2.P := by
  refine' ⟨_, _, fun hb hc => ?walk⟩
  case walk =>
    k_with_none
    k_with "getAttr ref" => (k_here; k_dflt (refine' get_own ?k1 ?k2 ?k3 ?k4 ?k5 ?k6 ?k7 ?k8 ?k9 ?_; (case k1 => k_asm); (case k2 => k_asm); (case k3 => k_inst); (case k4 => k_is); (case k5 => k_is); (case k6 => k_is); (case k7 => k_is); (case k8 => assumption); (case k9 => k_handed); k_whole))
    k_with "exec Assign cons ListComp" => (k_here; k_dflt (refine comp_tup_assign (by k_asm) (by rfl) (by with_unfolding_all rfl) (by with_unfolding_all rfl) (by decide) (by rfl) (by decide) (by rfl) (by rfl) (by rfl) ?_))
    k_with "eval ListComp" => (k_here; k_dflt (refine comp_tup (by k_asm) (by with_unfolding_all rfl) (by decide) (by rfl) (by decide) (by rfl) ?_))
    k_with "TupSrc" => (k_here; k_dflt (refine TupSrc.ledger (by rfl) (by k_asm) (by k_asm) (by k_mem) (by first | size_fits | exact Nat.le_of_ble_eq_true rfl) ?_; intro g'; lcg_lit))
    k_with "CompEnd" => (k_dflt (refine end_same (by k_asm) (by k_asm) (by k_asm) ⟨_, by k_mem, rfl, _, rfl⟩ ?_))
    k_with "call ref" => (k_here; (with_reducible show wpAny _ _ (call (Value.ref 361) _) _ _ _); k_dflt (refine' Con.use ?k1 ?k2 ?k3 ?k4 ?k5 ?kK (units_c _ _ _ ?p0 ?p1) ?kd ?ku ?_; (case k1 => k_asm); (case k2 => k_asm); (case k3 => k_asm); (case k4 => k_asm); (case k5 => k_asm); (case kK => first | exact rfl | assumption); (case p0 => exact NumIn.mono (by assumption) (fun p hp => by repeat (first | exact hp | refine .tail _ ?_)) ); (case p1 =>  assumption); (case kd => ktr_room); (case ku => ktr_units); intro r9 n9 h9 tk9 F9 N9 R9; obtain ⟨⟨t9, e9⟩, e8⟩ := R9; subst e9; subst e8;(try dsimp only); (try k_fold)))
    k_with "call ref" => (k_here; (with_reducible show wpAny _ _ (call (Value.ref 318) _) _ _ _); k_dflt (refine' Con.use ?k1 ?k2 ?k3 ?k4 ?k5 ?kK (two_lt_c _ _ _ _ _ _ _ _ ?p0 ?p1 ?p2 ?p3) ?kd ?ku ?_; (case k1 => k_asm); (case k2 => k_asm); (case k3 => k_asm); (case k4 => k_asm); (case k5 => k_asm); (case kK => first | exact rfl | assumption); (case p0 => exact NumIn.mono (by assumption) (fun p hp => by repeat (first | exact hp | refine .tail _ ?_)) ); (case p1 =>  exact NumIn.mono (by assumption) (fun p hp => by repeat (first | exact hp | refine .tail _ ?_)) ); (case p2 =>  assumption ); (case p3 =>  assumption); (case kd => ktr_room); (case ku => ktr_units); intro r9 n9 h9 tk9 F9 N9 R9; obtain ⟨⟨t9, e9⟩, e8⟩ := R9; subst e9; subst e8;(try dsimp only); (try k_fold)))
    k_with "call ref" => (k_here; (with_reducible show wpAny _ _ (call (Value.ref 318) _) _ _ _); k_dflt (refine' Con.use ?k1 ?k2 ?k3 ?k4 ?k5 ?kK (two_eq_c _ _ _ _ _ _ _ _ ?p0 ?p1 ?p2 ?p3) ?kd ?ku ?_; (case k1 => k_asm); (case k2 => k_asm); (case k3 => k_asm); (case k4 => k_asm); (case k5 => k_asm); (case kK => first | exact rfl | assumption); (case p0 => exact NumIn.mono (by assumption) (fun p hp => by repeat (first | exact hp | refine .tail _ ?_)) ); (case p1 =>  exact NumIn.mono (by assumption) (fun p hp => by repeat (first | exact hp | refine .tail _ ?_)) ); (case p2 =>  assumption ); (case p3 =>  assumption); (case kd => ktr_room); (case ku => ktr_units); intro r9 n9 h9 tk9 F9 N9 R9; obtain ⟨⟨t9, e9⟩, e8⟩ := R9; subst e9; subst e8;(try dsimp only); (try k_fold)))
    k_with "call ref" => (k_here; (with_reducible show wpAny _ _ (call (Value.ref 318) _) _ _ _); k_dflt (refine' Con.use ?k1 ?k2 ?k3 ?k4 ?k5 ?kK (two_gt_c _ _ _ _ _ _ _ _ ?p0 ?p1 ?p2 ?p3) ?kd ?ku ?_; (case k1 => k_asm); (case k2 => k_asm); (case k3 => k_asm); (case k4 => k_asm); (case k5 => k_asm); (case kK => first | exact rfl | assumption); (case p0 => exact NumIn.mono (by assumption) (fun p hp => by repeat (first | exact hp | refine .tail _ ?_)) ); (case p1 =>  exact NumIn.mono (by assumption) (fun p hp => by repeat (first | exact hp | refine .tail _ ?_)) ); (case p2 =>  assumption ); (case p3 =>  assumption); (case kd => ktr_room); (case ku => ktr_units); intro r9 n9 h9 tk9 F9 N9 R9; obtain ⟨⟨t9, e9⟩, e8⟩ := R9; subst e9; subst e8;(try dsimp only); (try k_fold)))
    intro w0 s0 s1
    intros
    iterate 25 (first | (k_unfold; (try dsimp only)) | (k_end; wrow_close) | walk1 | (dsimp only; walk1) | (leave1; try dsimp only))
    refine For_turns (by assumption) ?_
    iterate 13 (first | (k_unfold; (try dsimp only)) | (k_end; wrow_close) | walk1 | (dsimp only; walk1) | (leave1; try dsimp only))
    rename News _ _ _ _ => NS
    have hS6 := ltN (Heap.lt_size (NS _ (.tail _ (.tail _ (.tail _ (.tail _ (.tail _ (.tail _ (.head _)))))))).1)
    have hSD := ltN (Heap.lt_size (NS _ (.head _)).1)
    (try dsimp only at hS6 hSD)
    iterate 2 (first | (k_unfold; (try dsimp only)) | (k_end; wrow_close) | walk1 | (dsimp only; walk1) | (leave1; try dsimp only))
    refine ktu_zip rfl (by assumption) (by assumption) (.tail _ (.tail _ (.head _))) rfl rfl (.head _) rfl (congrArg (fun q => Data.seq q 0) (slice_tail _ _)) ?_
    intro I hI
    have hI6 := ltN (hI _ (.tail _ (.tail _ (.tail _ (.tail _ (.tail _ (.tail _ (.tail _ (.head _)))))))))
    have hIs := ltN (hI _ (.head _))
    have hID := ltN (hI _ (.tail _ (.head _)))
    (try dsimp only at hI6 hIs hID)
    have hI7 := ltN (hI _ (.tail _ (.tail _ (.head _))))
    have hI8 := ltN (hI _ (.tail _ (.tail _ (.tail _ (.head _)))))
    have hI9 := ltN (hI _ (.tail _ (.tail _ (.tail _ (.tail _ (.head _))))))
    have hI10 := ltN (hI _ (.tail _ (.tail _ (.tail _ (.tail _ (.tail _ (.head _)))))))
    have hI11 := ltN (hI _ (.tail _ (.tail _ (.tail _ (.tail _ (.tail _ (.tail _ (.head _))))))))
    (try dsimp only at hI7 hI8 hI9 hI10 hI11)
    refine zip_rest _ (J2 _ _ _ _ _ _ _ _ _ I _ _) ?turn ?done _ 0 _ _ _ rfl (J2.start7 (by assumption) (by assumption) (by assumption) (by assumption) (by assumption) (by assumption) (by assumption) (fun p hp => hI p (.tail _ (.tail _ (.tail _ (.tail _ (.tail _ (.tail _ (.tail _ (.tail _ (.tail _ (.tail _ (.tail _ (.tail _ (.tail _ hp)))))))))))))))
    case turn =>
      intro i x y m₁ news₁ hx hy hJ P h₁ tk₁ hP F₁
      refine AllObj.cons fun z1 k1 => AllObj.cons fun z2 k2 => AllObj.cons fun z3 k3 => AllObj.cons fun z4 k4 => AllObj.cons fun z5 k5 => AllObj.nil fun N₁ => ?_
      obtain ⟨mS, mO, mT, o6, o5, o4, o3, o2, x6, x5, x4, T₁, rfl, rfl, q6, q5, q4, q3, q2, hn₁, hT₁, hG₁⟩ := hJ
      simp only [List.cons_append, List.nil_append] at N₁
      obtain ⟨dx, gx, hx1, hx2⟩ := hn₁.get _ _ hx
      obtain ⟨dy, gy, hy1, hy2⟩ := hn₁.get _ _ hy
      have hTo₁ : OwnOff T₁ [s1.heap.objs.size + 1 + 1 + 1 + 1 + 1 + 1, s1.heap.objs.size + 1 + 1 + 1 + 1 + 1, s1.heap.objs.size + 1 + 1 + 1 + 1, s1.heap.objs.size + 1 + 1 + 1, s1.heap.objs.size + 1 + 1] := off_of hT₁ _ (by
        intro a ha
        simp only [List.mem_cons, List.not_mem_nil, or_false] at ha
        rcases ha with e | e | e | e | e <;> (rw [e]; show @LE.le Nat _ _ _; omega))
      show wpAny _ _ (assign _ _ _) _ _ _
      k_fold
      have F9 := trivial; have F₁ := trivial; have Heap := trivial; have I := trivial; have N9 := trivial; have NS := trivial; have N₁ := trivial; have OwnOff := trivial; have P := trivial; have R9 := trivial; have T₁ := trivial; have a := trivial; have dx := trivial; have dy := trivial; have e := trivial; have e8 := trivial; have e9 := trivial; have ek := trivial; have ek0 := trivial; have g' := trivial; have gx := trivial; have gy := trivial; have h9 := trivial; have hG₁ := trivial; have hI := trivial; have hI10 := trivial; have hI11 := trivial; have hI6 := trivial; have hI7 := trivial; have hI8 := trivial; have hI9 := trivial; have hID := trivial; have hIs := trivial; have hJ := trivial; have hP := trivial; have hS6 := trivial; have hSD := trivial; have hTo₁ := trivial; have hT₁ := trivial; have ha := trivial; have heap := trivial; have hn₁ := trivial; have hp := trivial; have hx := trivial; have hx1 := trivial; have hx2 := trivial; have hy := trivial; have hy1 := trivial; have hy2 := trivial; have h₁ := trivial; have i := trivial; have k1 := trivial; have k2 := trivial; have k3 := trivial; have k4 := trivial; have k5 := trivial; have k_fold := trivial; have lcg_lit := trivial; have le := trivial; have lt_size := trivial; have mO := trivial; have mS := trivial; have mT := trivial; have m₁ := trivial; have n9 := trivial; have news₁ := trivial; have o2 := trivial; have o3 := trivial; have o4 := trivial; have o5 := trivial; have o6 := trivial; have objs := trivial; have off_of := trivial; have p := trivial; have q := trivial; have q2 := trivial; have q3 := trivial; have q4 := trivial; have q5 := trivial; have q6 := trivial; have qk := trivial; have qk0 := trivial; have r9 := trivial; have s0 := trivial; have s1 := trivial; have size := trivial; have subst := trivial; have t9 := trivial; have tk := trivial; have tk9 := trivial; have tk₁ := trivial; have w0 := trivial; have x := trivial; have x4 := trivial; have x5 := trivial; have x6 := trivial; have y := trivial; have z1 := trivial; have z2 := trivial; have z3 := trivial; have z4 := trivial; have z5 := trivial
      repeat (rename_i zz9; revert zz9)
      exact hb.out
    case done =>
      have F9 := trivial; have F₁ := trivial; have Heap := trivial; have I := trivial; have N9 := trivial; have NS := trivial; have N₁ := trivial; have OwnOff := trivial; have P := trivial; have R9 := trivial; have T₁ := trivial; have a := trivial; have dx := trivial; have dy := trivial; have e := trivial; have e8 := trivial; have e9 := trivial; have ek := trivial; have ek0 := trivial; have g' := trivial; have gx := trivial; have gy := trivial; have h9 := trivial; have hG₁ := trivial; have hI := trivial; have hI10 := trivial; have hI11 := trivial; have hI6 := trivial; have hI7 := trivial; have hI8 := trivial; have hI9 := trivial; have hID := trivial; have hIs := trivial; have hJ := trivial; have hP := trivial; have hS6 := trivial; have hSD := trivial; have hTo₁ := trivial; have hT₁ := trivial; have ha := trivial; have heap := trivial; have hn₁ := trivial; have hp := trivial; have hx := trivial; have hx1 := trivial; have hx2 := trivial; have hy := trivial; have hy1 := trivial; have hy2 := trivial; have h₁ := trivial; have i := trivial; have k1 := trivial; have k2 := trivial; have k3 := trivial; have k4 := trivial; have k5 := trivial; have k_fold := trivial; have lcg_lit := trivial; have le := trivial; have lt_size := trivial; have mO := trivial; have mS := trivial; have mT := trivial; have m₁ := trivial; have n9 := trivial; have news₁ := trivial; have o2 := trivial; have o3 := trivial; have o4 := trivial; have o5 := trivial; have o6 := trivial; have objs := trivial; have off_of := trivial; have p := trivial; have q := trivial; have q2 := trivial; have q3 := trivial; have q4 := trivial; have q5 := trivial; have q6 := trivial; have qk := trivial; have qk0 := trivial; have r9 := trivial; have s0 := trivial; have s1 := trivial; have size := trivial; have subst := trivial; have t9 := trivial; have tk := trivial; have tk9 := trivial; have tk₁ := trivial; have w0 := trivial; have x := trivial; have x4 := trivial; have x5 := trivial; have x6 := trivial; have y := trivial; have z1 := trivial; have z2 := trivial; have z3 := trivial; have z4 := trivial; have z5 := trivial
      repeat (rename_i zz9; revert zz9)
      exact hc.out
end

section
open PySem PySem.W PyProof.Rows
set_option maxRecDepth 100000 in
set_option maxHeartbeats 0 in
noncomputable def JL4 : Joint JL3.P := by
  refine' ⟨_, fun hb => ?walk⟩
  case walk =>
    k_with_none
    k_with "getAttr ref" => (k_here; k_dflt (refine' get_own ?k1 ?k2 ?k3 ?k4 ?k5 ?k6 ?k7 ?k8 ?k9 ?_; (case k1 => k_asm); (case k2 => k_asm); (case k3 => k_inst); (case k4 => k_is); (case k5 => k_is); (case k6 => k_is); (case k7 => k_is); (case k8 => assumption); (case k9 => k_handed); k_whole))
    k_with "exec Assign cons ListComp" => (k_here; k_dflt (refine comp_tup_assign (by k_asm) (by rfl) (by with_unfolding_all rfl) (by with_unfolding_all rfl) (by decide) (by rfl) (by decide) (by rfl) (by rfl) (by rfl) ?_))
    k_with "eval ListComp" => (k_here; k_dflt (refine comp_tup (by k_asm) (by with_unfolding_all rfl) (by decide) (by rfl) (by decide) (by rfl) ?_))
    k_with "TupSrc" => (k_here; k_dflt (refine TupSrc.ledger (by rfl) (by k_asm) (by k_asm) (by k_mem) (by first | size_fits | exact Nat.le_of_ble_eq_true rfl) ?_; intro g'; lcg_lit))
    k_with "CompEnd" => (k_dflt (refine end_same (by k_asm) (by k_asm) (by k_asm) ⟨_, by k_mem, rfl, _, rfl⟩ ?_))
    k_with "call ref" => (k_here; (with_reducible show wpAny _ _ (call (Value.ref 361) _) _ _ _); k_dflt (refine' Con.use ?k1 ?k2 ?k3 ?k4 ?k5 ?kK (units_c _ _ _ ?p0 ?p1) ?kd ?ku ?_; (case k1 => k_asm); (case k2 => k_asm); (case k3 => k_asm); (case k4 => k_asm); (case k5 => k_asm); (case kK => first | exact rfl | assumption); (case p0 => exact NumIn.mono (by assumption) (fun p hp => by repeat (first | exact hp | refine .tail _ ?_)) ); (case p1 =>  assumption); (case kd => ktr_room); (case ku => ktr_units); intro r9 n9 h9 tk9 F9 N9 R9; obtain ⟨⟨t9, e9⟩, e8⟩ := R9; subst e9; subst e8;(try dsimp only); (try k_fold)))
    k_with "call ref" => (k_here; (with_reducible show wpAny _ _ (call (Value.ref 318) _) _ _ _); k_dflt (refine' Con.use ?k1 ?k2 ?k3 ?k4 ?k5 ?kK (two_lt_c _ _ _ _ _ _ _ _ ?p0 ?p1 ?p2 ?p3) ?kd ?ku ?_; (case k1 => k_asm); (case k2 => k_asm); (case k3 => k_asm); (case k4 => k_asm); (case k5 => k_asm); (case kK => first | exact rfl | assumption); (case p0 => exact NumIn.mono (by assumption) (fun p hp => by repeat (first | exact hp | refine .tail _ ?_)) ); (case p1 =>  exact NumIn.mono (by assumption) (fun p hp => by repeat (first | exact hp | refine .tail _ ?_)) ); (case p2 =>  assumption ); (case p3 =>  assumption); (case kd => ktr_room); (case ku => ktr_units); intro r9 n9 h9 tk9 F9 N9 R9; obtain ⟨⟨t9, e9⟩, e8⟩ := R9; subst e9; subst e8;(try dsimp only); (try k_fold)))
    k_with "call ref" => (k_here; (with_reducible show wpAny _ _ (call (Value.ref 318) _) _ _ _); k_dflt (refine' Con.use ?k1 ?k2 ?k3 ?k4 ?k5 ?kK (two_eq_c _ _ _ _ _ _ _ _ ?p0 ?p1 ?p2 ?p3) ?kd ?ku ?_; (case k1 => k_asm); (case k2 => k_asm); (case k3 => k_asm); (case k4 => k_asm); (case k5 => k_asm); (case kK => first | exact rfl | assumption); (case p0 => exact NumIn.mono (by assumption) (fun p hp => by repeat (first | exact hp | refine .tail _ ?_)) ); (case p1 =>  exact NumIn.mono (by assumption) (fun p hp => by repeat (first | exact hp | refine .tail _ ?_)) ); (case p2 =>  assumption ); (case p3 =>  assumption); (case kd => ktr_room); (case ku => ktr_units); intro r9 n9 h9 tk9 F9 N9 R9; obtain ⟨⟨t9, e9⟩, e8⟩ := R9; subst e9; subst e8;(try dsimp only); (try k_fold)))
    k_with "call ref" => (k_here; (with_reducible show wpAny _ _ (call (Value.ref 318) _) _ _ _); k_dflt (refine' Con.use ?k1 ?k2 ?k3 ?k4 ?k5 ?kK (two_gt_c _ _ _ _ _ _ _ _ ?p0 ?p1 ?p2 ?p3) ?kd ?ku ?_; (case k1 => k_asm); (case k2 => k_asm); (case k3 => k_asm); (case k4 => k_asm); (case k5 => k_asm); (case kK => first | exact rfl | assumption); (case p0 => exact NumIn.mono (by assumption) (fun p hp => by repeat (first | exact hp | refine .tail _ ?_)) ); (case p1 =>  exact NumIn.mono (by assumption) (fun p hp => by repeat (first | exact hp | refine .tail _ ?_)) ); (case p2 =>  assumption ); (case p3 =>  assumption); (case kd => ktr_room); (case ku => ktr_units); intro r9 n9 h9 tk9 F9 N9 R9; obtain ⟨⟨t9, e9⟩, e8⟩ := R9; subst e9; subst e8;(try dsimp only); (try k_fold)))
    intro w0 s0 s1
    intros
    rename_i hI6 hIs hID hI7 hI8 hI9 hI10 hI11 i x y hx hy P h₁ tk₁ hP z1 k1 z2 k2 z3 k3 z4 k4 z5 k5 mS mO mT o6 o5 o4 o3 o2 x6 x5 x4 T₁ F₁ N₁ q6 q5 q4 q3 q2 hn₁ hT₁ hG₁ dx gx hx1 hx2 dy gy hy1 hy2 hTo₁ qk ek
    repeat ((fail_if_success (with_reducible show wpAny _ _ (execs (Stmt.If _ _ _ _ :: _) _) _ _ _)); first | (k_unfold; (try dsimp only)) | walk1 | (dsimp only; walk1))
    rename Fr _ _ _ _ => FX
    rename News _ _ _ _ => NX
    revert hI6 hIs hID hI7 hI8 hI9 hI10 hI11 hx hy q2 q3 hn₁ hT₁ hG₁ gx hx1 hx2 gy hy1 hy2 hTo₁ FX NX
    repeat (rename Fr _ _ _ _ => FY; clear FY)
    repeat (rename News _ _ _ _ => NY; clear NY)
    repeat (rename LCg.NsObj _ _ => NY; clear NY)
    intro hI6 hIs hID hI7 hI8 hI9 hI10 hI11 hx hy q2 q3 hn₁ hT₁ hG₁ gx hx1 hx2 gy hy1 hy2 hTo₁ FX NX
    have F9 := trivial; have FX := trivial; have FY := trivial; have F₁ := trivial; have LCg := trivial; have N9 := trivial; have NX := trivial; have NY := trivial; have NsObj := trivial; have N₁ := trivial; have P := trivial; have R9 := trivial; have T₁ := trivial; have dev := trivial; have dx := trivial; have dy := trivial; have e8 := trivial; have e9 := trivial; have ek := trivial; have ek0 := trivial; have g' := trivial; have gx := trivial; have gy := trivial; have h9 := trivial; have hG₁ := trivial; have hI10 := trivial; have hI11 := trivial; have hI6 := trivial; have hI7 := trivial; have hI8 := trivial; have hI9 := trivial; have hID := trivial; have hIs := trivial; have hP := trivial; have hTo₁ := trivial; have hT₁ := trivial; have hn₁ := trivial; have hp := trivial; have hx := trivial; have hx1 := trivial; have hx2 := trivial; have hy := trivial; have hy1 := trivial; have hy2 := trivial; have h₁ := trivial; have i := trivial; have k1 := trivial; have k2 := trivial; have k3 := trivial; have k4 := trivial; have k5 := trivial; have k_fold := trivial; have lcg_lit := trivial; have mO := trivial; have mS := trivial; have mT := trivial; have n9 := trivial; have o2 := trivial; have o3 := trivial; have o4 := trivial; have o5 := trivial; have o6 := trivial; have p := trivial; have q2 := trivial; have q3 := trivial; have q4 := trivial; have q5 := trivial; have q6 := trivial; have qk := trivial; have qk0 := trivial; have r9 := trivial; have s0 := trivial; have s1 := trivial; have subst := trivial; have t9 := trivial; have tk := trivial; have tk9 := trivial; have tk₁ := trivial; have w0 := trivial; have x := trivial; have x4 := trivial; have x5 := trivial; have x6 := trivial; have y := trivial; have z1 := trivial; have z2 := trivial; have z3 := trivial; have z4 := trivial; have z5 := trivial
    repeat (rename_i zz9; revert zz9)
    exact hb.out
end

section
open PySem PySem.W PyProof.Rows
theorem way_cases (x y : Int) :
    (b2i (decide (y < x)) - b2i (decide (x < y)) = -1 ∧ (if x < y then (-1 : Int) else 0) = -1 ∧ (if x = y then (-1 : Int) else 0) = 0 ∧ (if y < x then (-1 : Int) else 0) = 0) ∨
    (b2i (decide (y < x)) - b2i (decide (x < y)) = 0 ∧ (if x < y then (-1 : Int) else 0) = 0 ∧ (if x = y then (-1 : Int) else 0) = -1 ∧ (if y < x then (-1 : Int) else 0) = 0) ∨
    (b2i (decide (y < x)) - b2i (decide (x < y)) = 1 ∧ (if x < y then (-1 : Int) else 0) = 0 ∧ (if x = y then (-1 : Int) else 0) = 0 ∧ (if y < x then (-1 : Int) else 0) = -1) := by
  rcases Int.lt_trichotomy x y with h | h | h
  · refine .inl ⟨?_, if_pos h, if_neg (by omega), if_neg (by omega)⟩
    rw [decide_eq_true h, decide_eq_false (by omega)]; rfl
  · refine .inr (.inl ⟨?_, if_neg (by omega), if_pos h, if_neg (by omega)⟩)
    rw [decide_eq_false (by omega), decide_eq_false (by omega)]; rfl
  · refine .inr (.inr ⟨?_, if_neg (by omega), if_neg (by omega), if_pos h⟩)
    rw [decide_eq_true h, decide_eq_false (by omega)]; rfl
def WayCases (x y : Int) : Prop := (b2i (decide (y < x)) - b2i (decide (x < y)) = -1 ∧ (if x < y then (-1 : Int) else 0) = -1 ∧ (if x = y then (-1 : Int) else 0) = 0 ∧ (if y < x then (-1 : Int) else 0) = 0) ∨ (b2i (decide (y < x)) - b2i (decide (x < y)) = 0 ∧ (if x < y then (-1 : Int) else 0) = 0 ∧ (if x = y then (-1 : Int) else 0) = -1 ∧ (if y < x then (-1 : Int) else 0) = 0) ∨ (b2i (decide (y < x)) - b2i (decide (x < y)) = 1 ∧ (if x < y then (-1 : Int) else 0) = 0 ∧ (if x = y then (-1 : Int) else 0) = 0 ∧ (if y < x then (-1 : Int) else 0) = -1)
theorem way_of {T T' : List (Addr × Obj)} {x y : Value} {d d' : Num} (_ : NumIn T x d) (_ : NumIn T' y d') : WayCases d.units d'.units := way_cases d.units d'.units
set_option maxRecDepth 100000 in
set_option maxHeartbeats 0 in
noncomputable def JL5 : Joint JL4.P := by
  refine' ⟨_, fun hb => ?walk⟩
  case walk =>
    k_with_none
    k_with "getAttr ref" => (k_here; k_dflt (refine' get_own ?k1 ?k2 ?k3 ?k4 ?k5 ?k6 ?k7 ?k8 ?k9 ?_; (case k1 => k_asm); (case k2 => k_asm); (case k3 => k_inst); (case k4 => k_is); (case k5 => k_is); (case k6 => k_is); (case k7 => k_is); (case k8 => assumption); (case k9 => k_handed); k_whole))
    k_with "exec Assign cons ListComp" => (k_here; k_dflt (refine comp_tup_assign (by k_asm) (by rfl) (by with_unfolding_all rfl) (by with_unfolding_all rfl) (by decide) (by rfl) (by decide) (by rfl) (by rfl) (by rfl) ?_))
    k_with "eval ListComp" => (k_here; k_dflt (refine comp_tup (by k_asm) (by with_unfolding_all rfl) (by decide) (by rfl) (by decide) (by rfl) ?_))
    k_with "TupSrc" => (k_here; k_dflt (refine TupSrc.ledger (by rfl) (by k_asm) (by k_asm) (by k_mem) (by first | size_fits | exact Nat.le_of_ble_eq_true rfl) ?_; intro g'; lcg_lit))
    k_with "CompEnd" => (k_dflt (refine end_same (by k_asm) (by k_asm) (by k_asm) ⟨_, by k_mem, rfl, _, rfl⟩ ?_))
    intro w0 s0 s1
    intros
    rename_i hI6 hIs hID hI7 hI8 hI9 hI10 hI11 hx hy q2 q3 hn₁ hT₁ hG₁ gx hx1 hx2 gy hy1 hy2 hTo₁ FX NX
    refine' exec_cut ?k1 ?k2 ?here ?next
    (case k1 => k_asm)
    (case k2 => k_asm)
    case here =>
      rcases way_of hx1 hy1 with ⟨c1, c2, c3, c4⟩ | ⟨c1, c2, c3, c4⟩ | ⟨c1, c2, c3, c4⟩
      all_goals (simp only [c1, c2, c3, c4] at *)
      all_goals (repeat (first | (k_unfold; (try dsimp only)) | walk1 | (dsimp only; walk1)))
      all_goals first | assumption | exact news_sub (by assumption) (fun p hp => .tail _ (.tail _ hp))
    case next =>
      intro h' tk' F' N'
      clear FX NX
      have F' := trivial; have FX := trivial; have N' := trivial; have NX := trivial; have c1 := trivial; have c2 := trivial; have c3 := trivial; have c4 := trivial; have dev := trivial; have ek := trivial; have ek0 := trivial; have g' := trivial; have gx := trivial; have gy := trivial; have h' := trivial; have hG₁ := trivial; have hI10 := trivial; have hI11 := trivial; have hI6 := trivial; have hI7 := trivial; have hI8 := trivial; have hI9 := trivial; have hID := trivial; have hIs := trivial; have hTo₁ := trivial; have hT₁ := trivial; have hn₁ := trivial; have hp := trivial; have hx := trivial; have hx1 := trivial; have hx2 := trivial; have hy := trivial; have hy1 := trivial; have hy2 := trivial; have lcg_lit := trivial; have p := trivial; have q2 := trivial; have q3 := trivial; have qk := trivial; have qk0 := trivial; have s0 := trivial; have s1 := trivial; have tk := trivial; have tk' := trivial; have w0 := trivial; have way_of := trivial
      repeat (rename_i zz9; revert zz9)
      exact hb.out
end

section
open PySem PySem.W PyProof.Rows
set_option maxRecDepth 100000 in
set_option maxHeartbeats 0 in
theorem t6 : JL5.P := by
  k_with_none
  k_with "getAttr ref" => (k_here; k_dflt (refine' get_own ?k1 ?k2 ?k3 ?k4 ?k5 ?k6 ?k7 ?k8 ?k9 ?_; (case k1 => k_asm); (case k2 => k_asm); (case k3 => k_inst); (case k4 => k_is); (case k5 => k_is); (case k6 => k_is); (case k7 => k_is); (case k8 => assumption); (case k9 => k_handed); k_whole))
  k_with "exec Assign cons ListComp" => (k_here; k_dflt (refine comp_tup_assign (by k_asm) (by rfl) (by with_unfolding_all rfl) (by with_unfolding_all rfl) (by decide) (by rfl) (by decide) (by rfl) (by rfl) (by rfl) ?_))
  k_with "eval ListComp" => (k_here; k_dflt (refine comp_tup (by k_asm) (by with_unfolding_all rfl) (by decide) (by rfl) (by decide) (by rfl) ?_))
  k_with "TupSrc" => (k_here; k_dflt (refine TupSrc.ledger (by rfl) (by k_asm) (by k_asm) (by k_mem) (by first | size_fits | exact Nat.le_of_ble_eq_true rfl) ?_; intro g'; lcg_lit))
  k_with "CompEnd" => (k_dflt (refine end_same (by k_asm) (by k_asm) (by k_asm) ⟨_, by k_mem, rfl, _, rfl⟩ ?_))
  k_with "call builtin:repr" => (k_here; k_dflt (refine' repr_num ?p0 ?p1 ?k1 ?k2 ?kg ?ku ?_; (case k1 => k_asm); (case k2 => k_asm); (case p0 => exact NumIn.mono (by assumption) (fun p hp => by repeat (first | exact hp | refine .tail _ ?_))); (case p1 => assumption); (case kg => exact rfl); (case ku => first | (simp only [units_deeper, units_caller, cLine]; omega) | ktr_units); intro h9 u9 tk9 F9 N9; (try dsimp only); (try k_fold)))
  k_with "compareOp NotEq str str" => (k_here; k_dflt (refine ne_str_same ?_))
  k_with "call ref" => (k_here; (with_reducible show wpAny _ _ (call (Value.ref 283) _) _ _ _); k_dflt (refine' Con.use ?k1 ?k2 ?k3 ?k4 ?k5 ?kK (min_c _ _ _ _ _ _ _ _ ?p1 ?p2 ?p3 ?p4 ?p0) ?kd ?ku ?_; (case k1 => k_asm); (case k2 => k_asm); (case k3 => k_asm); (case k4 => k_asm); (case k5 => k_asm); (case kK => first | exact rfl | assumption); (case p0 => (repeat (first | exact List.Mem.head _ | refine' List.Mem.tail _ ?_)) ); (case p1 =>  exact NumIn.mono (by assumption) (fun p hp => by repeat (first | exact hp | refine .tail _ ?_)) ); (case p2 =>  exact NumIn.mono (by assumption) (fun p hp => by repeat (first | exact hp | refine .tail _ ?_)) ); (case p3 =>  assumption ); (case p4 =>  assumption); (case kd => ktr_room); (case ku => ktr_units); intro r9 n9 h9 tk9 F9 N9 R9; obtain ⟨e9, e8⟩ := R9; subst e9; subst e8;(try dsimp only); (try k_fold)))
  k_with "call ref" => (k_here; (with_reducible show wpAny _ _ (call (Value.ref 290) _) _ _ _); k_dflt (refine' Con.use ?k1 ?k2 ?k3 ?k4 ?k5 ?kK (max_c _ _ _ _ _ _ _ _ ?p1 ?p2 ?p3 ?p4 ?p0) ?kd ?ku ?_; (case k1 => k_asm); (case k2 => k_asm); (case k3 => k_asm); (case k4 => k_asm); (case k5 => k_asm); (case kK => first | exact rfl | assumption); (case p0 => (repeat (first | exact List.Mem.head _ | refine' List.Mem.tail _ ?_)) ); (case p1 =>  exact NumIn.mono (by assumption) (fun p hp => by repeat (first | exact hp | refine .tail _ ?_)) ); (case p2 =>  exact NumIn.mono (by assumption) (fun p hp => by repeat (first | exact hp | refine .tail _ ?_)) ); (case p3 =>  assumption ); (case p4 =>  assumption); (case kd => ktr_room); (case ku => ktr_units); intro r9 n9 h9 tk9 F9 N9 R9; obtain ⟨e9, e8⟩ := R9; subst e9; subst e8;(try dsimp only); (try k_fold)))
  intro w0 s0 s1
  intros
  rename_i hI6 hIs hID hI7 hI8 hI9 hI10 hI11 hx hy q2 q3 hn₁ hT₁ hG₁ gx hx1 hx2 gy hy1 hy2 hTo₁ h' tk' FX NX
  rename List (Addr × Obj) => T₁
  have ok1 := neg_ok hx2
  have ok2 := neg_ok hy2
  repeat ((fail_if_success (with_reducible show wpAny _ _ (call (Value.ref 382) _) _ _ _)); first | (k_unfold; (try dsimp only)) | walk1 | (dsimp only; walk1))
  k_dflt (refine' Con.use ?k1 ?k2 ?k3 ?k4 ?k5 ?kK (opp_c _ _ _ _ _ _ _ _ _ _ _ ?p0 ?p1 ?p2 ?p3 ?p4 ?p5 ?p6 ?p7) ?kd ?ku ?_; (case k1 => k_asm); (case k2 => k_asm); (case k3 => k_asm); (case k4 => k_asm); (case k5 => k_asm); (case kK => exact rfl); (case p0 => exact NumIn.mono (by assumption) (fun p hp => by repeat (first | exact hp | refine .tail _ ?_))); (case p1 => assumption); (case p4 => (repeat (first | exact List.Mem.head _ | refine' List.Mem.tail _ ?_))); (case p5 => (repeat (first | exact List.Mem.head _ | refine' List.Mem.tail _ ?_))); (case p6 => assumption); (case p7 => assumption); (case p2 => omega); (case p3 => omega); (case kd => first | (simp only [depth_deeper, depth_caller, recursionLimit]; omega) | ktr_room); (case ku => first | (simp only [units_deeper, units_caller, cLine]; omega) | ktr_units))
  intro r1 nw9 h9 tk9 F9 N9 R9
  obtain ⟨ext, r1_in, lt9, rfl⟩ := R9
  k_dflt (refine' gt_grow_k hT₁ lt9 ?hm ?_; (case hm => (repeat (first | exact List.Mem.head _ | refine' List.Mem.tail _ ?_))))
  intro hT₂
  k_dflt (refine' gap_grow_k hG₁ lt9 ?hm ?_; (case hm => (repeat (first | exact List.Mem.head _ | refine' List.Mem.tail _ ?_))))
  intro hG₂
  k_dflt (refine' shift_k N9 ?sh ?_; (case sh => ((repeat (apply Shift.cons)); exact Shift.base _)))
  intro N10
  have hn₂ := NumsIn.mono hn₁ (fun p hp => List.mem_append_right ext hp)
  have hx1_ := NumIn.mono hx1 (fun p hp => List.mem_append_right ext hp)
  have hy1_ := NumIn.mono hy1 (fun p hp => List.mem_append_right ext hp)
  have r1_1 := NumIn.mono r1_in (fun p hp => List.mem_append_left T₁ hp)
  (try clear FX)
  (try clear NX)
  clear N9 lt9 r1_in hn₁ hT₁ hG₁ hTo₁ hx1 hy1
  generalize ext ++ T₁ = T₂ at *
  have hn₁ := hn₂
  have hT₁ := hT₂
  have hG₁ := hG₂
  have r1_in := r1_1
  have hx1 := hx1_
  have hy1 := hy1_
  clear hn₂ hT₂ hG₂ r1_1 hx1_ hy1_
  have hTo₁ : OwnOff T₂ [s1.heap.objs.size + 1 + 1 + 1 + 1 + 1 + 1, s1.heap.objs.size + 1 + 1 + 1 + 1 + 1, s1.heap.objs.size + 1 + 1 + 1 + 1, s1.heap.objs.size + 1 + 1 + 1, s1.heap.objs.size + 1 + 1] := off_of hT₁ _ (by
    intro a ha
    simp only [List.mem_cons, List.not_mem_nil, or_false] at ha
    rcases ha with e | e | e | e | e <;> (rw [e]; show @LE.le Nat _ _ _; omega))
  have FX := F9
  have NX := N10
  clear F9 N10
  (try dsimp only)
  (try k_fold)
  repeat ((fail_if_success (with_reducible show wpAny _ _ (call (Value.ref 382) _) _ _ _)); first | (k_unfold; (try dsimp only)) | walk1 | (dsimp only; walk1))
  k_dflt (refine' Con.use ?k1 ?k2 ?k3 ?k4 ?k5 ?kK (opp_c _ _ _ _ _ _ _ _ _ _ _ ?p0 ?p1 ?p2 ?p3 ?p4 ?p5 ?p6 ?p7) ?kd ?ku ?_; (case k1 => k_asm); (case k2 => k_asm); (case k3 => k_asm); (case k4 => k_asm); (case k5 => k_asm); (case kK => exact rfl); (case p0 => exact NumIn.mono (by assumption) (fun p hp => by repeat (first | exact hp | refine .tail _ ?_))); (case p1 => assumption); (case p4 => (repeat (first | exact List.Mem.head _ | refine' List.Mem.tail _ ?_))); (case p5 => (repeat (first | exact List.Mem.head _ | refine' List.Mem.tail _ ?_))); (case p6 => assumption); (case p7 => assumption); (case p2 => omega); (case p3 => omega); (case kd => first | (simp only [depth_deeper, depth_caller, recursionLimit]; omega) | ktr_room); (case ku => first | (simp only [units_deeper, units_caller, cLine]; omega) | ktr_units))
  intro r2 nw9 h9 tk9 F9 N9 R9
  obtain ⟨ext, r2_in, lt9, rfl⟩ := R9
  k_dflt (refine' gt_grow_k hT₁ lt9 ?hm ?_; (case hm => (repeat (first | exact List.Mem.head _ | refine' List.Mem.tail _ ?_))))
  intro hT₂
  k_dflt (refine' gap_grow_k hG₁ lt9 ?hm ?_; (case hm => (repeat (first | exact List.Mem.head _ | refine' List.Mem.tail _ ?_))))
  intro hG₂
  k_dflt (refine' shift_k N9 ?sh ?_; (case sh => ((repeat (apply Shift.cons)); exact Shift.base _)))
  intro N10
  have hn₂ := NumsIn.mono hn₁ (fun p hp => List.mem_append_right ext hp)
  have hx1_ := NumIn.mono hx1 (fun p hp => List.mem_append_right ext hp)
  have hy1_ := NumIn.mono hy1 (fun p hp => List.mem_append_right ext hp)
  have r1_in_ := NumIn.mono r1_in (fun p hp => List.mem_append_right ext hp)
  have r2_1 := NumIn.mono r2_in (fun p hp => List.mem_append_left T₂ hp)
  (try clear FX)
  (try clear NX)
  clear N9 lt9 r2_in hn₁ hT₁ hG₁ hTo₁ hx1 hy1 r1_in
  generalize ext ++ T₂ = T₃ at *
  have hn₁ := hn₂
  have hT₁ := hT₂
  have hG₁ := hG₂
  have r2_in := r2_1
  have hx1 := hx1_
  have hy1 := hy1_
  have r1_in := r1_in_
  clear hn₂ hT₂ hG₂ r2_1 hx1_ hy1_ r1_in_
  have hTo₁ : OwnOff T₃ [s1.heap.objs.size + 1 + 1 + 1 + 1 + 1 + 1, s1.heap.objs.size + 1 + 1 + 1 + 1 + 1, s1.heap.objs.size + 1 + 1 + 1 + 1, s1.heap.objs.size + 1 + 1 + 1, s1.heap.objs.size + 1 + 1] := off_of hT₁ _ (by
    intro a ha
    simp only [List.mem_cons, List.not_mem_nil, or_false] at ha
    rcases ha with e | e | e | e | e <;> (rw [e]; show @LE.le Nat _ _ _; omega))
  have FX := F9
  have NX := N10
  clear F9 N10
  (try dsimp only)
  (try k_fold)
  have mn := pick_in r2_in r1_in
  have mnok := pick_ok ok2 ok1
  repeat ((fail_if_success (with_reducible show wpAny _ _ (call (Value.ref 382) _) _ _ _)); first | (k_unfold; (try dsimp only)) | walk1 | (dsimp only; walk1))
  k_dflt (refine' Con.use ?k1 ?k2 ?k3 ?k4 ?k5 ?kK (opp_c _ _ _ _ _ _ _ _ _ _ _ ?p0 ?p1 ?p2 ?p3 ?p4 ?p5 ?p6 ?p7) ?kd ?ku ?_; (case k1 => k_asm); (case k2 => k_asm); (case k3 => k_asm); (case k4 => k_asm); (case k5 => k_asm); (case kK => exact rfl); (case p0 => exact NumIn.mono (by assumption) (fun p hp => by repeat (first | exact hp | refine .tail _ ?_))); (case p1 => assumption); (case p4 => (repeat (first | exact List.Mem.head _ | refine' List.Mem.tail _ ?_))); (case p5 => (repeat (first | exact List.Mem.head _ | refine' List.Mem.tail _ ?_))); (case p6 => assumption); (case p7 => assumption); (case p2 => omega); (case p3 => omega); (case kd => first | (simp only [depth_deeper, depth_caller, recursionLimit]; omega) | ktr_room); (case ku => first | (simp only [units_deeper, units_caller, cLine]; omega) | ktr_units))
  intro r3 nw9 h9 tk9 F9 N9 R9
  obtain ⟨ext, r3_in, lt9, rfl⟩ := R9
  k_dflt (refine' gt_grow_k hT₁ lt9 ?hm ?_; (case hm => (repeat (first | exact List.Mem.head _ | refine' List.Mem.tail _ ?_))))
  intro hT₂
  k_dflt (refine' gap_grow_k hG₁ lt9 ?hm ?_; (case hm => (repeat (first | exact List.Mem.head _ | refine' List.Mem.tail _ ?_))))
  intro hG₂
  k_dflt (refine' shift_k N9 ?sh ?_; (case sh => ((repeat (apply Shift.cons)); exact Shift.base _)))
  intro N10
  have hn₂ := NumsIn.mono hn₁ (fun p hp => List.mem_append_right ext hp)
  have hx1_ := NumIn.mono hx1 (fun p hp => List.mem_append_right ext hp)
  have hy1_ := NumIn.mono hy1 (fun p hp => List.mem_append_right ext hp)
  have r3_1 := NumIn.mono r3_in (fun p hp => List.mem_append_left T₃ hp)
  (try clear FX)
  (try clear NX)
  clear N9 lt9 r3_in hn₁ hT₁ hG₁ hTo₁ hx1 hy1
  generalize ext ++ T₃ = T₄ at *
  have hn₁ := hn₂
  have hT₁ := hT₂
  have hG₁ := hG₂
  have r3_in := r3_1
  have hx1 := hx1_
  have hy1 := hy1_
  clear hn₂ hT₂ hG₂ r3_1 hx1_ hy1_
  have hTo₁ : OwnOff T₄ [s1.heap.objs.size + 1 + 1 + 1 + 1 + 1 + 1, s1.heap.objs.size + 1 + 1 + 1 + 1 + 1, s1.heap.objs.size + 1 + 1 + 1 + 1, s1.heap.objs.size + 1 + 1 + 1, s1.heap.objs.size + 1 + 1] := off_of hT₁ _ (by
    intro a ha
    simp only [List.mem_cons, List.not_mem_nil, or_false] at ha
    rcases ha with e | e | e | e | e <;> (rw [e]; show @LE.le Nat _ _ _; omega))
  have FX := F9
  have NX := N10
  clear F9 N10
  (try dsimp only)
  (try k_fold)
  rw [neg_pick] at r3_in
  have mx := pick_max hx1 hy1
  have mxok := pick_maxok hx2 hy2
  obtain ⟨dl, hl1, hl2, hl3⟩ := low_at hn₁ hy
  obtain ⟨dh, hh1, hh2, hh3⟩ := high_at hn₁ hy
  have en := low_next hy gy hl3
  have em := high_next hy gy hh3
  repeat (first | (k_unfold; (try dsimp only)) | walk1 | (dsimp only; walk1))
  k_dflt (refine' turn_end ?F ?N ?b ?h6 ?h5 ?h4 ?h3 ?h2 ?e3 ?e2 ?hn ?hT ?hG ?off ?sub; (case F => assumption); (case N => assumption); (case b => exact (fun p hp => by repeat (first | exact hp | refine .tail _ ?_))); (case h6 => assumption); (case h5 => assumption); (case h4 => assumption); (case h3 => assumption); (case h2 => assumption); (case e3 => exact em); (case e2 => exact en); (case hn => exact hn₁); (case hT => exact hT₁); (case hG => exact hG₁))
  case off =>
    refine gap_five ?_
    dsimp only [List.cons_append, List.nil_append]
    iterate 13 (refine gap_cons (by show @LT.lt Nat _ _ _; omega) ?_)
    exact hG₁
  case sub => exact ⟨(by repeat (first | exact .head _ | refine .tail _ ?_)), (by repeat (first | exact .head _ | refine .tail _ ?_)), trivial⟩
end

section
open PySem PySem.W PyProof.Rows
set_option maxRecDepth 100000 in
set_option maxHeartbeats 0 in
noncomputable def JM1 : Joint JL3.Q := by
  refine' ⟨_, fun hb => ?walk⟩
  case walk =>
    k_with_none
    k_with "getAttr ref" => (k_here; k_dflt (refine' get_own ?k1 ?k2 ?k3 ?k4 ?k5 ?k6 ?k7 ?k8 ?k9 ?_; (case k1 => k_asm); (case k2 => k_asm); (case k3 => k_inst); (case k4 => k_is); (case k5 => k_is); (case k6 => k_is); (case k7 => k_is); (case k8 => assumption); (case k9 => k_handed); k_whole))
    k_with "call ref" => (k_here; (with_reducible show wpAny _ _ (call (Value.ref 361) _) _ _ _); k_dflt (refine' Con.use ?k1 ?k2 ?k3 ?k4 ?k5 ?kK (units_c _ _ _ ?p0 ?p1) ?kd ?ku ?_; (case k1 => k_asm); (case k2 => k_asm); (case k3 => k_asm); (case k4 => k_asm); (case k5 => k_asm); (case kK => first | exact rfl | assumption); (case p0 => exact NumIn.mono (by assumption) (fun p hp => by repeat (first | exact hp | refine .tail _ ?_)) ); (case p1 =>  assumption); (case kd => ktr_room); (case ku => ktr_units); intro r9 n9 h9 tk9 F9 N9 R9; obtain ⟨⟨t9, e9⟩, e8⟩ := R9; subst e9; subst e8;(try dsimp only); (try k_fold)))
    k_with "exec Assign cons ListComp" => (k_here; k_dflt (refine LCg.Assign_ListComp_U (by k_asm) (by rfl) (by with_unfolding_all rfl) (by with_unfolding_all rfl) (by decide) (by rfl) (by decide) (by rfl) (by rfl) (by rfl) ?_))
    k_with "call builtin:min" => (k_here; k_dflt (refine' kso_min ?k1 ?k2 ?k3 ?k4 ?k5 ?k6 ?_; (case k1 => k_asm); (case k2 => k_asm); (case k3 => refine' isl ?n1 ?n2; (case n1 => k_asm); (case n2 => (repeat (first | exact List.Mem.head _ | refine' List.Mem.tail _ ?_)))); (case k4 => assumption); (case k5 => assumption); (case k6 => exact rfl)); intro h' M' t' k' F' N' a' b'; (try dsimp only); (try k_fold))
    k_with "call builtin:max" => (k_here; k_dflt (refine' kso_max ?k1 ?k2 ?k3 ?k4 ?k5 ?k6 ?_; (case k1 => k_asm); (case k2 => k_asm); (case k3 => refine' isl ?n1 ?n2; (case n1 => k_asm); (case n2 => (repeat (first | exact List.Mem.head _ | refine' List.Mem.tail _ ?_)))); (case k4 => assumption); (case k5 => assumption); (case k6 => exact rfl)); intro h' M' t' k' F' N' a' b'; (try dsimp only); (try k_fold))
    k_with "call builtin:list.index" => (k_here; k_dflt (refine' index_ints ?N ?m ?i ?j ?z ?_; (case N => k_asm); (case m => (repeat (first | exact List.Mem.head _ | refine' List.Mem.tail _ ?_))); (case i => assumption); (case j => first | exact low_first (by assumption) (by assumption) | exact high_first (by assumption) (by assumption)); (case z => assumption)); (try dsimp only); (try k_fold))
    k_with "subscriptTail Name Call ref int" => (k_here; k_dflt (refine' item_at ?N ?m ?j ?z ?_ ?e; (case N => k_asm); (case m => (repeat (first | exact List.Mem.head _ | refine' List.Mem.tail _ ?_))); (case j => assumption); (case z => assumption); (case e => with_unfolding_all rfl)); (try dsimp only); (try k_fold))
    k_with "call builtin:repr" => (k_here; k_dflt (refine' repr_num ?p0 ?p1 ?k1 ?k2 ?kg ?ku ?_; (case k1 => k_asm); (case k2 => k_asm); (case p0 => exact NumIn.mono (by assumption) (fun p hp => by repeat (first | exact hp | refine .tail _ ?_))); (case p1 => assumption); (case kg => exact rfl); (case ku => first | (simp only [units_deeper, units_caller, cLine]; omega) | ktr_units); intro h9 u9 tk9 F9 N9; (try dsimp only); (try k_fold)))
    k_with "compareOp NotEq str str" => (k_here; k_dflt (refine ne_str_same ?_))
    intro w0 s0 s1
    intros
    rename_i mD newsD hD tkD hJ FX NX
    obtain ⟨mS, mO, mT, o6, o5, o4, o3, o2, x6, x5, x4, T₁, rfl, rfl, q6, q5, q4, q3, q2, hn₁, hT₁, hG₁⟩ := hJ
    simp only [List.cons_append, List.nil_append] at NX
    dsimp only
    (try k_fold)
    iterate 3 (first | (k_unfold; (try dsimp only)) | walk1 | (dsimp only; walk1))
    k_dflt (refine' LCg.CompSrc.ledger (by rfl) ?k1 ?k2 ?km ?sz ?_; (case k1 => k_asm); (case k2 => k_asm); (case km => (repeat (first | exact List.Mem.head _ | refine' List.Mem.tail _ ?_))))
    case sz => rw [List.size_toArray]; show _ ≤ _; exact Nat.le_trans (Nat.le_of_lt (by rw [List.length_cons]; omega : _ < 8)) (by decide)
    intro g'
    refine comp_units hn₁ (fun i v h => by simpa using h) ?turn (.inr ⟨_, (by repeat (first | exact .head _ | refine .tail _ ?_)), rfl, _, rfl⟩) ?fin _ 0 [] (by simp) .nil
    case turn =>
      intro v d I' oI C' oC D' oD m₂ h₂ tk₂ E' hv hd hC hx F' N'
      clear FX NX
      repeat (first | (k_unfold; (try dsimp only)) | walk1 | (dsimp only; walk1))
      exact ⟨_, _, _, rfl, by assumption, by assumption, rfl⟩
    case fin =>
      intro ys hys
      have hne := lt_of_units hn₁ (by simp : 0 < _)
      have hle := le_of_units hn₁ (by rw [List.length_cons]; omega : _ ≤ 64)
      have el := units_len hn₁
      obtain ⟨j1, dl, j2, j3⟩ := low_end hn₁ (by simp : 0 < _)
      obtain ⟨k1, dh, k2, k3⟩ := high_end hn₁ (by simp : 0 < _)
      rw [← el] at q2 q3
      have hvl : _ ≤ 64 := le_of_eq_of_le el.symm hle
      clear FX NX
      repeat ((fail_if_success (with_reducible show wpAny _ _ (execs [_, _] _) _ _ _)); first | (k_unfold; (try dsimp only)) | walk1 | (dsimp only; walk1))
      have C' := trivial; have D' := trivial; have E' := trivial; have F' := trivial; have F9 := trivial; have FX := trivial; have I' := trivial; have M' := trivial; have N' := trivial; have N9 := trivial; have NX := trivial; have R9 := trivial; have T₁ := trivial; have a' := trivial; have b' := trivial; have d := trivial; have dev := trivial; have dh := trivial; have dl := trivial; have e8 := trivial; have e9 := trivial; have ek := trivial; have ek0 := trivial; have el := trivial; have g' := trivial; have h := trivial; have h' := trivial; have h9 := trivial; have hC := trivial; have hD := trivial; have hG₁ := trivial; have hJ := trivial; have hT₁ := trivial; have hd := trivial; have high_end := trivial; have hle := trivial; have hne := trivial; have hn₁ := trivial; have hp := trivial; have hv := trivial; have hvl := trivial; have hx := trivial; have hys := trivial; have h₂ := trivial; have i := trivial; have j1 := trivial; have j2 := trivial; have j3 := trivial; have k' := trivial; have k1 := trivial; have k2 := trivial; have k3 := trivial; have k_fold := trivial; have le_of_eq_of_le := trivial; have le_of_units := trivial; have length_cons := trivial; have low_end := trivial; have lt_of_units := trivial; have mD := trivial; have mO := trivial; have mS := trivial; have mT := trivial; have m₂ := trivial; have n9 := trivial; have newsD := trivial; have o2 := trivial; have o3 := trivial; have o4 := trivial; have o5 := trivial; have o6 := trivial; have oC := trivial; have oD := trivial; have oI := trivial; have p := trivial; have q2 := trivial; have q3 := trivial; have q4 := trivial; have q5 := trivial; have q6 := trivial; have qk := trivial; have qk0 := trivial; have r9 := trivial; have s0 := trivial; have s1 := trivial; have subst := trivial; have symm := trivial; have t' := trivial; have t9 := trivial; have tk := trivial; have tk9 := trivial; have tkD := trivial; have tk₂ := trivial; have u9 := trivial; have units_len := trivial; have v := trivial; have w0 := trivial; have x4 := trivial; have x5 := trivial; have x6 := trivial; have ys := trivial
      repeat (rename_i zz9; revert zz9)
      exact hb.out
end

section
open PySem PySem.W PyProof.Rows
set_option maxRecDepth 100000 in
set_option maxHeartbeats 0 in
noncomputable def JN1 : Joint JM1.P := by
  refine' ⟨_, fun hb => ?walk⟩
  case walk =>
    k_with_none
    k_with "getAttr ref" => (k_here; k_dflt (refine' get_own ?k1 ?k2 ?k3 ?k4 ?k5 ?k6 ?k7 ?k8 ?k9 ?_; (case k1 => k_asm); (case k2 => k_asm); (case k3 => k_inst); (case k4 => k_is); (case k5 => k_is); (case k6 => k_is); (case k7 => k_is); (case k8 => assumption); (case k9 => k_handed); k_whole))
    k_with "exec Assign cons ListComp" => (k_here; k_dflt (refine two_assign (by k_asm) (by rfl) (by with_unfolding_all rfl) (by with_unfolding_all rfl) (by decide) (by rfl) (by decide) (by rfl) (by rfl) (by rfl) (by rfl) (by rfl) ?_ (fun _ _ => rfl) (fun _ _ => rfl)))
    intro w0 s0 s1
    intros
    dsimp only
    repeat (first | (k_unfold; (try dsimp only)) | walk1 | (dsimp only; walk1))
    rename Fr _ _ _ _ => FX
    rename News _ _ _ _ => NX
    k_dflt (refine' ⟨_, _, _, ArgG, rfl, rfl, FX, NX, ⟨_, List.Mem.head _, rfl, _, rfl⟩, rfl, ArgG.mono, ?it, ?elt, ?fin⟩)
    case elt =>
      intro v0 v1 J oJ I oI C oC D oD T m₂ h tk E' hC hx0 hx1 F N
      clear FX NX
      repeat (first | (k_unfold; (try dsimp only)) | walk1 | (dsimp only; walk1))
      exact ⟨_, _, _, rfl, rfl, by assumption, by assumption, by assumption⟩
    case it =>
      intro v0 I oI C oC D oD ext m₂ h tk E' hv hC hx F N
      clear FX NX
      k_dflt (refine' shift3_k N ?sh ?_; (case sh => ((repeat (apply Shift.cons)); exact Shift.base _)))
      intro sh N'
      clear N
      repeat (first | (k_unfold; (try dsimp only)) | walk1 | (dsimp only; walk1))
      have hf : v0 = .ref 283 ∨ v0 = .ref 290 := by simpa using hv
      exact it_end sh (by assumption) (by assumption) hf (.inl ⟨_, _, NumIn.mono (by assumption) (fun p hp => by repeat (first | exact (List.mem_append_right _ hp) | refine .tail _ ?_)), by assumption, rfl⟩) (.inr (.inl ⟨_, _, NumIn.mono (by assumption) (fun p hp => by repeat (first | exact (List.mem_append_right _ hp) | refine .tail _ ?_)), by assumption, rfl⟩)) (.inr (.inr ⟨_, _, rfl, rfl⟩)) (by assumption) (by assumption) (by assumption) (by assumption)
    case fin =>
      intro D h tk ext ys F N hr hz
      clear FX NX
      k_dflt (refine' shift1_k N ?sh ?_; (case sh => ((repeat (apply Shift.cons)); exact Shift.base _)))
      intro sh N'
      have hr' : ∀ v ∈ ys, RowAt ArgG _ v := fun v hv => (hr v hv).mono ArgG.mono sh.sup
      clear N hr sh
      dsimp only
      repeat ((fail_if_success (with_reducible show wpAny _ _ (execs [_] _) _ _ _)); first | (k_unfold; (try dsimp only)) | walk1 | (dsimp only; walk1))
      have ArgG := trivial; have C := trivial; have D := trivial; have E' := trivial; have F := trivial; have FX := trivial; have I := trivial; have J := trivial; have N := trivial; have N' := trivial; have NX := trivial; have RowAt := trivial; have T := trivial; have ek := trivial; have ek0 := trivial; have ext := trivial; have h := trivial; have hC := trivial; have hf := trivial; have hp := trivial; have hr := trivial; have hr' := trivial; have hv := trivial; have hx := trivial; have hx0 := trivial; have hx1 := trivial; have hz := trivial; have mono := trivial; have m₂ := trivial; have oC := trivial; have oD := trivial; have oI := trivial; have oJ := trivial; have p := trivial; have qk := trivial; have qk0 := trivial; have ref := trivial; have s0 := trivial; have s1 := trivial; have sh := trivial; have simpa := trivial; have sup := trivial; have tk := trivial; have v := trivial; have v0 := trivial; have v1 := trivial; have w0 := trivial; have ys := trivial
      repeat (rename_i zz9; revert zz9)
      exact hb.out
end

section
open PySem PySem.W PyProof.Rows
set_option maxRecDepth 100000 in
set_option maxHeartbeats 0 in
theorem n2 : JN1.P := by
  k_with_none
  k_with "getAttr ref" => (k_here; k_dflt (refine' get_own ?k1 ?k2 ?k3 ?k4 ?k5 ?k6 ?k7 ?k8 ?k9 ?_; (case k1 => k_asm); (case k2 => k_asm); (case k3 => k_inst); (case k4 => k_is); (case k5 => k_is); (case k6 => k_is); (case k7 => k_is); (case k8 => assumption); (case k9 => k_handed); k_whole))
  intro w0 s0 s1
  intros
  repeat ((fail_if_success (with_reducible show wpAny _ _ (eval (Expr.ListComp _ _ _ _) _) _ _ _)); first | (k_unfold; (try dsimp only)) | walk1 | (dsimp only; walk1))
  k_dflt (refine LCt.ListComp_T (F₀ := by k_asm) (by with_unfolding_all rfl) (by decide) (by rfl) (by decide) (by rfl) ?_)
  repeat (first | (k_unfold; (try dsimp only)) | walk1 | (dsimp only; walk1))
  rename ∀ v, v ∈ _ → RowAt ArgG _ v => hrW
  k_dflt (refine' LCt.CompSrcT.ledger (by rfl) ?k1 ?k2 ?km ?sz ?_; (case k1 => k_asm); (case k2 => k_asm); (case km => (repeat (first | exact List.Mem.head _ | refine' List.Mem.tail _ ?_))))
  case sz => rw [List.size_toArray]; exact Nat.le_trans (by assumption) (by decide)
  intro g'
  refine comp_none (vs := _) (fun i v h => List.mem_of_getElem? (by simpa using h)) ?turn (.inr ⟨_, (by repeat (first | exact .head _ | refine .tail _ ?_)), rfl, _, rfl⟩) ?fin _ 0
  case turn =>
    intro v I oI C oC D m₂ h tk E' hv hC hx F N
    obtain ⟨t, f, a, rfl, ht, hf, l, b, c, rfl, hl, hA⟩ := hrW v hv
    replace N := news_front N (.tail _ (.tail _ (.tail _ (.tail _ ht))))
    replace N := news_front N (.tail _ (.tail _ (.tail _ (.tail _ (.tail _ hl)))))
    have hb := bad_of hA
    rcases hf with rfl | rfl
    all_goals (repeat ((fail_if_success (with_reducible show wpAny _ _ (call (Value.ref 375) _) _ _ _)); first | (k_unfold; (try dsimp only)) | walk1 | (dsimp only; walk1)))
    all_goals (k_dflt (refine' Con0.use ?k1 ?k2 ?k3 ?k4 ?k5 ?kK (refused_any _ _ _ _ _ _ ?p0 ?p1 ?p2) ?kd ?ku ?_; (case k1 => k_asm); (case k2 => k_asm); (case k3 => k_asm); (case k4 => k_asm); (case k5 => k_asm); (case kK => exact rfl); (case p2 => exact List.Mem.head _); (case p0 => first | exact .inl rfl | exact .inr rfl); (case p1 => refine BadPair.mono ?_ hb; exact (fun p hp => by repeat (first | exact hp | refine .tail _ ?_))); (case kd => first | (simp only [depth_deeper, depth_caller, recursionLimit]; omega) | ktr_room); (case ku => first | (simp only [units_deeper, units_caller, cLine]; omega) | ktr_units)))
    all_goals (intro r9 n9 h9 tk9 F9 N9 R9; obtain ⟨e9, e8⟩ := R9; subst e9; subst e8)
    all_goals (repeat (first | (k_unfold; (try dsimp only)) | walk1 | (dsimp only; walk1)))
    all_goals exact ⟨rfl, _, _, rfl, by assumption, news_sub (by assumption) (fun p hp => .tail _ (.tail _ hp))⟩
  case fin =>
    intro D h tk F N o1
    dsimp only
    repeat (first | (k_unfold; (try dsimp only)) | walk1 | (dsimp only; walk1))
    (k_end; wrow_close)
end

end Mine
theorem PySem.Challenge.cw_pf0009_01_holds : PySem.Challenge.rw_pf0009_01.Holds := by
  exact Mine.JL1.go ⟨Mine.JL2.go ⟨Mine.JL3.go ⟨Mine.JL4.go ⟨Mine.JL5.go ⟨Mine.t6⟩⟩⟩ ⟨Mine.JM1.go ⟨Mine.JN1.go ⟨Mine.n2⟩⟩⟩⟩⟩
