import PyProof.Rows.All
import Wide.All
import OpenK.AllK
import Wide.FinOn
import PySem.Challenge.RW_qd0124_01
open PySem PySem.W PySem.Calls PyProof.Rows PyProof.V PySem.Spec
set_option Elab.async false
set_option maxRecDepth 100000
set_option maxHeartbeats 8000000
set_option compiler.extract_closed false
set_option linter.unusedVariables false
namespace Mine
def topView : Program := view PySem.Challenge.pw_qd0124_01 [0, 2, 3, 4, 5, 6, 7, 8, 9, 10, 12, 13, 14, 15, 16, 18, 20, 22, 23, 24, 25, 26, 27, 28, 29]
theorem said_well : PySem.Challenge.rw_qd0124_01.wellSaid = true := by
  rw [Fast.te9446332074065402090]
  unfold Fast.tw9446332074065402090
  repeat' with_reducible refine look_both ?_ ?_
  all_goals (try unfold Fast.tw17960256430627541270)
  all_goals (repeat' with_reducible refine look_both ?_ ?_)
  all_goals (try unfold Fast.tw2436336058641802641)
  all_goals (repeat' with_reducible refine look_both ?_ ?_)
  all_goals (try unfold Fast.tw12908688711261696721)
  all_goals (repeat' with_reducible refine look_both ?_ ?_)
  all_goals decide +kernel
noncomputable def stepF (p : Program) (w : World) (s : SharedT) (t : Thread) : Option (SharedT × Thread) :=
  Fast.tw10156331382660048174 (Fast.tw11892475500146522536 Fast.tw14364793385576792824) p w s t
theorem stepF_eq : stepT (denote treeTable) = stepF := by
  funext p w s t
  unfold stepF
  rw [Fast.te10156331382660048174, Fast.te11892475500146522536, Fast.te14364793385576792824]
noncomputable def goT (p : Program) (w : World) (n₀ : Nat) (ann : Option Value) : Nat → SharedT → Thread → Option SharedT
  | 0, _, _ => none
  | n + 1, s, t => match through t with
    | true => some s
    | false => match Fast.tw6613529449190102663 n₀ ann t with
      | false => none
      | true => match stepF p w s t with
        | some x => goT p w n₀ ann n x.1 x.2
        | none => none
theorem goT_of {p : Program} {w : World} {n₀ : Nat} {ann : Option Value} : ∀ {n : Nat} {s s' : SharedT} {t : Thread}, goT p w n₀ ann n s t = some s' → topRun treeTable p w n₀ ann n s.abs t = some s'.abs
  | 0, _, _, _, h => by cases h
  | n + 1, s, s', t, h => by
    unfold goT at h
    unfold topRun
    rw [← Fast.te6613529449190102663, ← stepF_eq] at h
    cases he : through t with
    | true => rw [he] at h; cases h; rfl
    | false =>
      rw [he] at h
      cases hk : stepOk n₀ ann t with
      | false => rw [hk] at h; cases h
      | true =>
        rw [hk] at h
        cases hs : stepT (denote treeTable) p w s t with
        | none => rw [hs] at h; cases h
        | some x => rw [hs] at h; rw [stepT_spec (s' := x.1) (t' := x.2) hs]; exact goT_of h
noncomputable def bootT (w : World) (os : OsState) : SharedT := ⟨(boot_heap w.params).objs.toList.zipIdx.foldl (fun T x => T.ins x.2 x.1) .nil, 11, {}, #[], boot_drawn, boot_toks, os⟩
theorem bootT_abs (w : World) (os : OsState) : (bootT w os).abs = ⟨boot_heap w.params, #[], boot_drawn, boot_toks, os⟩ := by kernel_rfl
theorem boot_size (w : World) : ((boot_heap w.params).isNs mainGlobals && (#[] : Array GenState).size == 0, (boot_heap w.params).objs.size, (boot_heap w.params).nsMap mainGlobals "__annotations__") = (true, 11, some (Value.ref 6)) := by kernel_rfl
theorem top_opens (w : World) : (fencedOpening treeTable PySem.Challenge.pw_qd0124_01 w 3510).map (fun s => (s.heap, s.gens, s.drawn, s.toks)) = some (boot_heap w.params, #[], boot_drawn, boot_toks) :=
  boot_open (by kernel_rfl) (by kernel_rfl) (by intro s; kernel_rfl) w
theorem left_of {p q : Program} {Xt : Shared → Bool} {α : Type} {Yf : Shared → α} {Ya : World → α} {N m₀ k₀ : Nat} {ann : Option Value} {H₀ : Params → Heap} {gs₀ : Array GenState} {d₀ : Drawn} {B : World → OsState → SharedT}
    (opens : ∀ w : World, (fencedOpening treeTable p w N).map (fun s => (s.heap, s.gens, s.drawn, s.toks)) = some (H₀ w.params, gs₀, d₀, k₀))
    (size : ∀ w : World, ((H₀ w.params).isNs mainGlobals && gs₀.size == 0, (H₀ w.params).objs.size, (H₀ w.params).nsMap mainGlobals "__annotations__") = (true, m₀, ann))
    (hB : ∀ w os, (B w os).abs = ⟨H₀ w.params, gs₀, d₀, k₀, os⟩)
    (h : ∀ (w : World) (os : OsState), (goT p w m₀ ann N (B w os) (topStub p)).map (fun s =>
      ((staticsOk (importedModules p.main.body) (H₀ w.params) s.abs.heap && namesBound p s.abs.heap && gensDone s.abs && laidKept (H₀ w.params) s.abs.heap),
        Fast.tw4187177175401517315 q [] (importedModules p.main.body) Xt true s.abs, Yf s.abs)) = some (true, openGood q [], Ya w)) :
    LeftO p q [] Xt Yf Ya N := fun w => by
  obtain ⟨⟨hp, gs, d, k, os⟩, e, e'⟩ := Option.map_eq_some_iff.mp (opens w)
  obtain ⟨rfl, rfl, rfl, rfl⟩ : hp = H₀ w.params ∧ gs = gs₀ ∧ d = d₀ ∧ k = k₀ := by simpa using e'
  obtain ⟨z1, z2, z3⟩ : _ ∧ _ ∧ _ := by simpa only [Prod.mk.injEq] using size w
  obtain ⟨s, es, l⟩ := Option.map_eq_some_iff.mp (h w os)
  rw [← Fast.te4187177175401517315] at l
  obtain ⟨l1, l2, l3⟩ : _ ∧ _ ∧ _ := by simpa only [Prod.mk.injEq] using l
  have r := goT_of es
  rw [hB] at r
  have t : topFrom treeTable p w N ⟨H₀ w.params, gs, d, k, os⟩ = some s.abs := by
    unfold topFrom
    dsimp only
    rw [z1, z2, z3, r]
    show (match staticsOk (importedModules p.main.body) (H₀ w.params) s.abs.heap && namesBound p s.abs.heap && gensDone s.abs && laidKept (H₀ w.params) s.abs.heap with | true => _ | false => _) = _
    rw [l1]
  unfold openEnds
  rw [e]
  show (topFrom treeTable p w N _).map _ = _
  rw [t]
  exact congrArg some (Prod.ext l2 l3)
local macro_rules | `(tactic| o_law) => `(tactic| refine holds_law said_well fun said => ?_)
local macro_rules | `(tactic| o_head $H) => `(tactic| (refine holds_open (q := topView) (loose := []) (Xt := fun s => xlAt topView [] s && recOk (RowW.records (OpenRow.toRowW Challenge.rw_qd0124_01.row)) s) (XP := XL topView []) (Yf := Hook.obs $H) (Ya := Hook.val $H) (YP := Hook.says $H) (N := 3510) ?hl (Hook.of $H) (Hook.keeps $H) (fun s e => xl_of s (Bool.and_eq_true_iff.mp e).1) XL.keeps (by rfl) (by rfl) (by rfl) (fun s e => recFacts_of (Bool.and_eq_true_iff.mp e).2) (by kernel_rfl) (by assumption) (by decide +kernel) ⟨rfl, rfl, rfl, rfl, rfl, by decide +kernel⟩ ?hw ?hc; (case hl => (refine left_of top_opens boot_size bootT_abs ?_; intro w os; kernel_rfl))))
open_top hd for PySem.Challenge.rw_qd0124_01
inductive GoOn : Prop | mk
abbrev Led := List (Addr × Obj)

noncomputable def Ctr (w : World) (f : Addr) (vs : List Value) (news : Led) (Out : Value → Led → Prop) (d u : Nat) : Prop :=
  ∀ (dp un : Nat) (gd : Option (List Code)) (cn : Str) (cs : Scope) (a : Addr) (ccd : Value) (cl : List (Str × Addr)) (outer : List Env) (A₀ : Around) (base h₀ : Heap) (L : Addr) (m : Str → Option Value) (s : Shared)
    (p : Program) (loose : List Str) (mean : ExcName → Option Value) (mg mb : Str → Option Value) (Q E : Value → Shared → Prop),
    Below A₀ base outer h₀ → Fr h₀ L s.heap m → (Mine.hd.heap_1 w.params).In h₀ → News h₀ L s.heap news → Top p loose mean mg mb h₀ → cs.kind = .function → dp + d < recursionLimit → un + u < cLine →
    (∀ r news' h' tk', Fr h₀ L h' m → News h₀ L h' news' → Out r news' → Q r { s with heap := h', toks := tk' }) →
    wpAny (model PySem.Challenge.rw_qd0124_01.row.prog w) (ktrTop dp un gd cn cs L a ccd cl outer) (call (.ref f) vs) Q E s



theorem tupK {K : Frag} {h₀ h : Heap} {L a : Addr} {m : Str → Option Value} {items : Array Value} {n : Nat} {od : Option Addr} {sl : Array (Option Value)} (X : K.In h₀) (F : Fr h₀ L h m)
    (e : K.lookup a = some ⟨.type "tuple", od, .seq items n, sl⟩) : IsTup h a items := ⟨_, F.keep _ _ (X _ _ e), rfl, _, rfl⟩
local macro_rules | `(tactic| walk_at "compareOp NotIn int ref") => `(tactic| (k_here; k_dflt (refine' notin_tuple_ints ?k1 ?k2 ?_; (case k1 => (refine' tupK ?x ?f ?e; (case x => k_asm); (case f => k_asm); (case e => k_is))); (case k2 => repeat constructor); (try simp only [List.any_cons, List.any_nil, Bool.or_false]))))
local macro_rules | `(tactic| walk_at "compareOp In int ref") => `(tactic| (k_here; k_dflt (refine' in_tuple_ints ?k1 ?k2 ?_; (case k1 => (refine' tupK ?x ?f ?e; (case x => k_asm); (case f => k_asm); (case e => k_is))); (case k2 => repeat constructor); (try simp only [List.any_cons, List.any_nil, Bool.or_false]))))

theorem is_figure_ctr (w : World) (c : Int) (t : Tok) (news : Led) :
    Ctr w 37 [.int c t] news (fun r n => n = news ∧ r = .bool (decide (48 ≤ c) && decide (c ≤ 57))) 1 8 := by
  unfold Ctr
  k_fill
  intro dp un gd cn cs a ccd cl outer A₀ base h₀ L m s p loose mean mg mb Q E B F X N T hk hd hu hret
  refine wpAny_call ?_
  k_dflt cell_enter
  k_steps
  all_goals refine hret _ _ _ _ (by assumption) (by assumption) ⟨rfl, ?_⟩
  all_goals simp only [*, decide_true, decide_false, Bool.true_and, Bool.false_and]

noncomputable def white (c : Int) : Bool := (0 == c || (9 == c || (10 == c || (12 == c || (13 == c || 32 == c)))))
noncomputable def delim (c : Int) : Bool := (40 == c || (41 == c || (60 == c || (62 == c || (91 == c || (93 == c || (123 == c || (125 == c || (47 == c || 37 == c)))))))))
theorem is_regular_ctr (w : World) (c : Int) (t : Tok) (news : Led) :
    Ctr w 30 [.int c t] news (fun r n => n = news ∧ r = .bool (decide (0 ≤ c) && !white c && !delim c)) 1 8 := by
  unfold Ctr
  k_fill
  intro dp un gd cn cs a ccd cl outer A₀ base h₀ L m s p loose mean mg mb Q E B F X N T hk hd hu hret
  refine wpAny_call ?_
  k_dflt cell_enter
  k_steps
  all_goals refine hret _ _ _ _ (by assumption) (by assumption) ⟨rfl, ?_⟩
  all_goals simp only [white, delim, *, decide_true, decide_false, Bool.not_true, Bool.not_false, Bool.and_true, Bool.true_and, Bool.false_and, Bool.and_false]
local macro_rules | `(tactic| k_all) => `(tactic| assumption)

noncomputable def Stop (P : Prop) : Prop := P
theorem Stop.mk {P : Prop} (h : Stop P) : P := h
theorem Stop.go {P : Prop} (h : P) : Stop P := h
local macro_rules | `(tactic| walk_at "exec While Compare cons nil") => `(tactic| refine Stop.mk ?_)
local macro_rules | `(tactic| walk_at "exec While BoolOp cons nil") => `(tactic| refine Stop.mk ?_)

structure CurK where
  (h1 h2 h3 : Int) (k1 k2 k3 tb te : Nat)
abbrev curD (k : CurK) (b : Array UInt8) (a : Int) (ta : Nat) : Obj :=
  dictOf [⟨k.h1, .str (Str.ofString "data") k.k1, .bytes b k.tb⟩, ⟨k.h2, .str (Str.ofString "at") k.k2, .int a ta⟩, ⟨k.h3, .str (Str.ofString "end") k.k3, .int (b.size : Int) k.te⟩] 3
abbrev curL (x dx : Addr) (k : CurK) (b : Array UInt8) (a : Int) (ta : Nat) (news : Led) : Led := (x, instObj 140 dx) :: (dx, curD k b a ta) :: news
noncomputable def posOf (b : Array UInt8) (l : List UInt8) : Int := (b.size : Int) - (l.length : Int)

noncomputable def dropCom : List UInt8 → List UInt8
  | [] => []
  | c :: r => if c = 10 ∨ c = 13 then c :: r else dropCom r
theorem dropCom_le : ∀ l, (dropCom l).length ≤ l.length
  | [] => Nat.le_refl _
  | c :: r => by unfold dropCom; split; exact Nat.le_refl _; exact Nat.le_succ_of_le (dropCom_le r)
noncomputable def skipW : List UInt8 → List UInt8
  | [] => []
  | c :: r => if c = 37 then skipW (dropCom r) else if white (c.toNat : Int) then skipW r else c :: r
  termination_by l => l.length
  decreasing_by
    · exact Nat.lt_succ_of_le (dropCom_le r)
    · exact Nat.lt_succ_self _

theorem posOf_succ (b : Array UInt8) (c : UInt8) (r : List UInt8) : posOf b (c :: r) + 1 = posOf b r := by
  unfold posOf; rw [List.length_cons]; omega
theorem posOf_lt (b : Array UInt8) (c : UInt8) (r : List UInt8) : posOf b (c :: r) < (b.size : Int) := by
  unfold posOf; rw [List.length_cons]; omega
theorem posOf_nil (b : Array UInt8) : ¬ posOf b [] < (b.size : Int) := by
  unfold posOf; rw [List.length_nil]; omega
theorem item_suf {prog : Program} {w : World} {A : Around} {E : Value → Shared → Prop} {s : Shared} {value slice : PySem.Expr} {b : Array UInt8} {t u : Tok} {c : UInt8} {r : List UInt8} {Q : Value → Shared → Prop}
    (hl : (c :: r) <:+ b.toList) (hb : b.size ≤ 16777216) (h : Q (.int (c.toNat : Int) s.toks) { s with toks := s.toks + 1 })
    (hs : subscripted slice false (.bytes b t) (.int (posOf b (c :: r)) u) = operate [.bytes b t, .int (posOf b (c :: r)) u] (getItem (.bytes b t) (.int (posOf b (c :: r)) u)) := by with_unfolding_all rfl)
    (ht : ∀ x, letTemporaryGo value (.bytes b t) x = pure () := by intro _; with_unfolding_all rfl) :
    wpAny (model prog w) A (subscriptTail value slice (.bytes b t) (.int (posOf b (c :: r)) u)) Q E s := by
  obtain ⟨pre, hp⟩ := hl
  have hlen : b.size = pre.length + (r.length + 1) := by
    have := congrArg List.length hp
    simp only [List.length_append, List.length_cons, Array.length_toList] at this
    omega
  have hpos : posOf b (c :: r) = (pre.length : Int) := by unfold posOf; rw [List.length_cons]; omega
  have eb : b.toList.toArray = b := Array.toArray_toList
  have e2 : b.toList.length = b.size := Array.length_toList
  refine tail_of_ItemOn ⟨"bytes", _, FB.slot_bytes_getitem.lookup, typeIs_bytes _ _ _, ?_⟩ hs ht
  have hg : (b.toList.getD (posOf b (c :: r)).toNat 0).toNat = c.toNat := by
    rw [hpos, Int.toNat_natCast, ← hp]; simp
  have := getItem_bytes (prog := prog) (w := w) (A := A) (E := E) (s := s) (t := t) (u := u) (l := b.toList) (i := posOf b (c :: r)) (Q := Q) (by rw [e2]; omega) (by rw [hpos]; omega) (by rw [hpos, e2]; omega) (by rw [hg]; exact h)
  rwa [eb] at this
local macro_rules | `(tactic| walk_at "subscriptTail") => `(tactic| (k_here; (with_reducible show wpAny _ _ (subscriptTail _ _ (Value.bytes _ _) (Value.int (posOf _ (_ :: _)) _)) _ _ _); refine item_suf (by assumption) (by assumption) ?_))

theorem ws_next {h₀ h' : Heap} {L : Addr} {s : Shared} {J : Nat → (Str → Option Value) → List (Addr × Obj) → Prop} {Q : Flow → Shared → Prop} {n n' tk : Nat} {m' : Str → Option Value} {news' : Led}
    (F : Fr h₀ L h' m') (N : News h₀ L h' news') (lt : n' < n) (j : J n' m' news') : WhileStep2 h₀ L s J Q n .next { s with heap := h', toks := tk } := ⟨h', tk, m', news', n', rfl, F, N, lt, j⟩
theorem ws_ret {h₀ : Heap} {L : Addr} {s s₃ : Shared} {J : Nat → (Str → Option Value) → List (Addr × Obj) → Prop} {Q : Flow → Shared → Prop} {n : Nat} {v : Value} (h : Q (.ret v) s₃) : WhileStep2 h₀ L s J Q n (.ret v) s₃ := h
theorem news_as {h₀ h : Heap} {L : Addr} {l l' : Led} (N : News h₀ L h l) (e : l = l') : News h₀ L h l' := e ▸ N
theorem news_sub {h₀ h : Heap} {L : Addr} {l l' : Led} (N : News h₀ L h l) (e : ∀ p ∈ l', p ∈ l) : News h₀ L h l' := fun p hp => N p (e p hp)
noncomputable def Pins : List (Str × Value) → (Str → Option Value) → Prop
  | [], _ => True
  | (x, v) :: r, m => m x = some v ∧ Pins r m
noncomputable def pinM : List (Str × Value) → (Str → Option Value) → (Str → Option Value)
  | [], m => m
  | (x, v) :: r, m => fun z => if z = x then some v else pinM r m z
theorem pinM_eq : ∀ {ps : List (Str × Value)} {m : Str → Option Value}, Pins ps m → pinM ps m = m
  | [], _, _ => rfl
  | (x, v) :: r, m, ⟨e, h⟩ => by
    funext z
    show (if z = x then some v else pinM r m z) = m z
    rw [pinM_eq h]
    by_cases hz : z = x
    · rw [if_pos hz, hz, e]
    · rw [if_neg hz]
theorem fr_pin {h₀ h : Heap} {L : Addr} {m : Str → Option Value} {ps : List (Str × Value)} (F : Fr h₀ L h m) (e : Pins ps m) : Fr h₀ L h (pinM ps m) := by
  rw [pinM_eq e]; exact F
theorem skipW_nil : skipW [] = [] := by rw [skipW]
theorem skipW_com (r : List UInt8) : skipW (37 :: r) = skipW (dropCom r) := by rw [skipW]; exact if_pos rfl
theorem skipW_white {c : UInt8} (r : List UInt8) (h : c ≠ 37) (e : white (c.toNat : Int) = true) : skipW (c :: r) = skipW r := by rw [skipW, if_neg h, if_pos e]
theorem skipW_stop {c : UInt8} (r : List UInt8) (h : c ≠ 37) (e : white (c.toNat : Int) = false) : skipW (c :: r) = c :: r := by
  rw [skipW, if_neg h, if_neg (by rw [e]; exact Bool.false_ne_true)]

theorem skip_white_ctr (w : World) (x dx : Nat) (k : CurK) (b : Array UInt8) (hb : b.size ≤ 16777216) (l : List UInt8) (hl : l <:+ b.toList) (ta : Nat) (news : Led) (h1 : dx < x) (h2 : ∀ p ∈ news, p.1 ≠ dx) :
    Ctr w 95 [.ref x] (curL x dx k b (posOf b l) ta news) (fun r n => r = .none ∧ ∃ ta', n = curL x dx k b (posOf b (skipW l)) ta' news) 1 8 := by
  unfold Ctr
  k_fill
  intro dp un gd cn cs a ccd cl outer A₀ base h₀ L m s p loose mean mg mb Q E B F X N T hk hd hu hret
  refine wpAny_call ?_
  k_dflt cell_enter
  k_steps
  refine Stop.go ?_
  rename Fr _ _ _ _ => F1
  rename News _ _ _ _ => N1
  refine While_inv2 (fun n m₁ nx => ∃ l₁ ta₁, l₁ <:+ b.toList ∧ skipW l₁ = skipW l ∧ n = l₁.length ∧ Pins [(Str.ofString "self", .ref x)] m₁ ∧ nx = curL x dx k b (posOf b l₁) ta₁ news) (n₀ := l.length) F1 N1 ⟨l, ta, hl, rfl, rfl, ?_, rfl⟩ ?_
  · exact ⟨rfl, trivial⟩
  clear F1 N1
  rintro n m₁ nx h₁ tk₁ F1 N1 ⟨l₁, ta₁, hl₁, he, rfl, hm, rfl⟩
  replace F1 := fr_pin F1 hm
  dsimp only [pinM] at F1
  rcases l₁ with _ | ⟨c, r⟩
  · have hp := posOf_nil b
    k_steps
    rename News _ _ _ _ => N9
    rename Fr _ _ _ _ => F9
    refine hret _ _ _ _ F9 N9 ⟨rfl, ta₁, ?_⟩
    rw [← he, skipW_nil]
  have hp := posOf_lt b c r
  k_steps
  · -- a comment
    refine Stop.go ?_
    rename News _ _ _ _ => N2
    rename Fr _ _ _ _ => F2
    rename _ = 37 => hc
    have hc' : c = 37 := UInt8.toNat_inj.mp (by show c.toNat = 37; omega)
    have hdc : dropCom (c :: r) = dropCom r := by rw [hc']; simp [dropCom]
    refine While_inv2 (fun n m₁ nx => ∃ l₂ ta₂, l₂ <:+ b.toList ∧ dropCom l₂ = dropCom r ∧ n = l₂.length ∧ Pins [(Str.ofString "self", .ref x)] m₁ ∧ nx = curL x dx k b (posOf b l₂) ta₂ news) (n₀ := (c :: r).length) F2 N2 ⟨c :: r, ta₁, hl₁, hdc, rfl, ?_, rfl⟩ ?_
    · exact ⟨rfl, trivial⟩
    clear F2 N2
    rintro n m₂ nx h₂ tk₂ F2 N2 ⟨l₂, ta₂, hl₂, he₂, rfl, hm₂, rfl⟩
    replace F2 := fr_pin F2 hm₂
    dsimp only [pinM] at F2
    rcases l₂ with _ | ⟨c₂, r₂⟩
    · have hp := posOf_nil b
      k_steps
      refine ws_next F2 N2 ?_ ⟨[], ta₂, hl₂, ?_, rfl, ?_, rfl⟩
      · simp
      · rw [← he, hc', skipW_com, ← he₂, dropCom]
      · exact ⟨rfl, trivial⟩
    have hp := posOf_lt b c₂ r₂
    k_steps
    · rename News _ _ _ _ => N3
      rename Fr _ _ _ _ => F3
      rename _ = true => e2
      have hcc : c₂ = 10 ∨ c₂ = 13 := by
        simp only [List.any_cons, List.any_nil, Bool.or_false, Bool.or_eq_true, beq_iff_eq] at e2
        rcases e2 with e2 | e2
        · exact .inl (UInt8.toNat_inj.mp (by show c₂.toNat = 10; omega))
        · exact .inr (UInt8.toNat_inj.mp (by show c₂.toNat = 13; omega))
      have hd2 : dropCom (c₂ :: r₂) = c₂ :: r₂ := by rw [dropCom, if_pos hcc]
      refine ws_next F3 (news_sub N3 fun p hp => .tail _ hp) ?_ ⟨c₂ :: r₂, ta₂, hl₂, ?_, rfl, ?_, rfl⟩
      · rw [← hd2, he₂]; exact Nat.lt_succ_of_le (dropCom_le r)
      · rw [← he, hc', skipW_com, ← he₂, hd2]
      · exact ⟨rfl, trivial⟩
    · rename News _ _ _ _ => N3
      rename Fr _ _ _ _ => F3
      rename _ = false => e2
      have hcc : ¬ (c₂ = 10 ∨ c₂ = 13) := by
        rintro (rfl | rfl) <;> simp at e2
      have hd2 : dropCom (c₂ :: r₂) = dropCom r₂ := by rw [dropCom, if_neg hcc]
      rw [posOf_succ] at N3
      refine ws_next F3 (news_sub N3 fun p hp => .tail _ hp) ?_ ⟨r₂, _, ?_, ?_, rfl, ?_, rfl⟩
      · exact Nat.lt_succ_self _
      · exact (List.suffix_cons c₂ r₂).trans hl₂
      · rw [← hd2, he₂]
      · exact ⟨rfl, trivial⟩
  · rename News _ _ _ _ => N3
    rename Fr _ _ _ _ => F3
    rename _ ≠ 37 => e1
    rename _ = true => e2
    have hcc : c ≠ 37 := by
      rintro rfl; exact e1 rfl
    rw [posOf_succ] at N3
    refine ws_next F3 N3 ?_ ⟨r, _, ?_, ?_, rfl, ?_, rfl⟩
    · exact Nat.lt_succ_self _
    · exact (List.suffix_cons c r).trans hl₁
    · rw [← he, skipW_white _ hcc e2]
    · exact ⟨rfl, trivial⟩
  · rename _ ≠ 37 => e1
    rename _ = false => e2
    have hcc : c ≠ 37 := by
      rintro rfl; exact e1 rfl
    refine ws_ret ?_
    dsimp only
    k_steps
    rename News _ _ _ _ => N9
    rename Fr _ _ _ _ => F9
    refine hret _ _ _ _ F9 N9 ⟨rfl, ta₁, ?_⟩
    rw [← he, skipW_stop _ hcc e2]
local macro_rules | `(tactic| walk_at "exec For Name Subscript cons nil") => `(tactic| refine Stop.mk ?_)
local macro_rules | `(tactic| walk_at "pyIter bytes") => `(tactic| refine Stop.mk ?_)

theorem Ctr.use {w : World} {f : Addr} {vs : List Value} {news : Led} {Out : Value → Led → Prop} {d u : Nat} {dp un : Nat} {gd : Option (List Code)} {cn : Str} {cs : Scope} {a : Addr} {ccd : Value} {cl : List (Str × Addr)} {outer : List Env} {A₀ : Around} {base h₀ : Heap} {L : Addr} {m : Str → Option Value} {s : Shared}
    {p : Program} {loose : List Str} {mean : ExcName → Option Value} {mg mb : Str → Option Value} {Q E : Value → Shared → Prop} (C : Ctr w f vs news Out d u) 
    (B : Below A₀ base outer h₀) (F : Fr h₀ L s.heap m) (X : (Mine.hd.heap_1 w.params).In h₀) (N : News h₀ L s.heap news) (T : Top p loose mean mg mb h₀) (hk : cs.kind = .function) (hd : dp + d < recursionLimit) (hu : un + u < cLine)
    (ret : ∀ r news' h' tk', Fr h₀ L h' m → News h₀ L h' news' → Out r news' → Q r { s with heap := h', toks := tk' }) :
    wpAny (model PySem.Challenge.rw_qd0124_01.row.prog w) (ktrTop dp un gd cn cs L a ccd cl outer) (call (.ref f) vs) Q E s :=
  C dp un gd cn cs a ccd cl outer A₀ base h₀ L m s p loose mean mg mb Q E B F X N T hk hd hu ret
theorem Ctr.useT {w : World} {f : Addr} {vs : List Value} {news : Led} {Out : Value → Led → Prop} {d u : Nat} {dp un : Nat} {gd : Option (List Code)} {cn : Str} {cs : Scope} {a : Addr} {ccd : Value} {cl : List (Str × Addr)} {outer : List Env} {A₀ : Around} {base h₀ : Heap} {L : Addr} {m : Str → Option Value} {s : Shared}
    {p : Program} {loose : List Str} {mean : ExcName → Option Value} {mg mb : Str → Option Value} {Q E : Value → Shared → Prop} (C : Ctr w f vs news Out d u) 
    (B : Below A₀ base outer h₀) (F : Fr h₀ L s.heap m) (X : (Mine.hd.heap_1 w.params).In h₀) (N : News h₀ L s.heap news) (T : Top p loose mean mg mb h₀) (hk : cs.kind = .function) (hd : dp + d < recursionLimit) (hu : un + u < cLine)
    (ret : ∀ h' tk', Fr h₀ L h' m → ∀ r news', Out r news' → News h₀ L h' news' → Q r { s with heap := h', toks := tk' }) :
    wpAny (model PySem.Challenge.rw_qd0124_01.row.prog w) (ktrTop dp un gd cn cs L a ccd cl outer) (call (.ref f) vs) Q E s :=
  C dp un gd cn cs a ccd cl outer A₀ base h₀ L m s p loose mean mg mb Q E B F X N T hk hd hu fun r n h tk F N O => ret h tk F r n O N
theorem eq_all {P : Value → Led → Prop} {v : Value} {l : Led} (k : P v l) : ∀ r n, r = v ∧ n = l → P r n := fun _ _ ⟨e1, e2⟩ => e1 ▸ e2 ▸ k
theorem eq_all2 {P : Value → Led → Prop} {v : Value} {l : Led} (k : P v l) : ∀ r n, n = l ∧ r = v → P r n := fun _ _ ⟨e1, e2⟩ => e1 ▸ e2 ▸ k
theorem ex1_all {P : Value → Led → Prop} {v : Nat → Value} {l : Led} (k : ∀ t, P (v t) l) : ∀ r n, (∃ t, r = v t ∧ n = l) → P r n := fun _ _ ⟨t, e1, e2⟩ => e1 ▸ e2 ▸ k t
local macro_rules | `(tactic| walk_at "mine sides") => `(tactic| ((case k1 => k_asm); (case k2 => k_asm); (case k3 => k_asm); (case k4 => k_asm); (case k5 => k_asm); (case k6 => first | exact rfl | assumption); (case k7 => ktr_room); (case k8 => ktr_units)))
local macro_rules | `(tactic| walk_at "call ref") => `(tactic| (k_here; k_dflt (refine' Ctr.useT (is_regular_ctr _ _ _ _) ?k1 ?k2 ?k3 ?k4 ?k5 ?k6 ?k7 ?k8 ?_; walk_at "mine sides"; intro h' tk' F'; (first | refine eq_all ?_ | refine eq_all2 ?_); intro N'; (try dsimp only))))
local macro_rules | `(tactic| walk_at "call ref") => `(tactic| (k_here; k_dflt (refine' Ctr.useT (is_figure_ctr _ _ _ _) ?k1 ?k2 ?k3 ?k4 ?k5 ?k6 ?k7 ?k8 ?_; walk_at "mine sides"; intro h' tk' F'; (first | refine eq_all ?_ | refine eq_all2 ?_); intro N'; (try dsimp only))))

noncomputable def regB (c : UInt8) : Bool := decide (0 ≤ (c.toNat : Int)) && !white (c.toNat : Int) && !delim (c.toNat : Int)
noncomputable def figB (c : UInt8) : Bool := decide (48 ≤ (c.toNat : Int)) && decide ((c.toNat : Int) ≤ 57)

theorem takeWhile_split {p : UInt8 → Bool} : ∀ {x r : List UInt8}, (∀ c ∈ x, p c = true) → (∀ c s, r = c :: s → p c = false) → (x ++ r).takeWhile p = x ∧ (x ++ r).dropWhile p = r
  | [], [], _, _ => ⟨rfl, rfl⟩
  | [], c :: s, _, h => by
    have := h c s rfl
    rw [List.nil_append, List.takeWhile_cons, List.dropWhile_cons, this]; exact ⟨rfl, rfl⟩
  | a :: x, r, h, h' => by
    have ih := takeWhile_split (x := x) (r := r) (fun c hc => h c (.tail _ hc)) h'
    have e := h a (.head _)
    rw [List.cons_append, List.takeWhile_cons, List.dropWhile_cons, e]
    exact ⟨by rw [if_pos rfl, ih.1], by rw [if_pos rfl, ih.2]⟩
theorem slice_suf {prog : Program} {w : World} {A : Around} {E : Value → Shared → Prop} {s : Shared} {value slice : PySem.Expr} {b : Array UInt8} {t t1 t2 : Tok} {h₀ : Heap} {L : Addr} {m : Str → Option Value} {news : Led} {l x l' : List UInt8} {Q : Value → Shared → Prop}
    (hF : Fr h₀ L s.heap m) (hN : News h₀ L s.heap news) (hl : l <:+ b.toList) (e : l = x ++ l') (hb : b.size ≤ 16777216)
    (h : ∀ h' t' k, Fr h₀ L h' m → News h₀ L h' news → Q (.bytes x.toArray t') { s with heap := h', toks := k })
    (hs : subscripted slice false (.bytes b t) (.ref s.heap.objs.size) = operate [.ref s.heap.objs.size, .bytes b t] (getItem (.bytes b t) (.ref s.heap.objs.size)) := by with_unfolding_all rfl)
    (ht : ∀ r, letTemporaryGo value (.bytes b t) r = pure () := by intro _; with_unfolding_all rfl) :
    wpAny (model prog w) A (subscriptTail value slice (.bytes b t) (.ref s.heap.objs.size)) Q E { s with heap := s.heap.push { cls := .type "slice", data := .fields #[.int (posOf b l) t1, .int (posOf b l') t2, .none] } } := by
  subst e
  obtain ⟨pre, hp⟩ := hl
  have hlen : b.size = pre.length + (x.length + l'.length) := by
    have h1 := congrArg List.length hp
    have h2 : b.toList.length = b.size := Array.length_toList
    simp only [List.length_append] at h1
    omega
  have p1 : posOf b (x ++ l') = (pre.length : Int) := by unfold posOf; rw [List.length_append]; omega
  have p2 : posOf b l' = ((pre.length + x.length : Nat) : Int) := by unfold posOf; omega
  have hx : KBy.picked b (some (posOf b (x ++ l'))) (some (posOf b l')) = x.toArray := by
    rw [KBc.picked_eq, p1, p2]
    simp only [Option.elim, clipAt_nat]
    rw [← hp]
    congr 1
    have a1 : min pre.length b.size = pre.length := by omega
    have a2 : min (pre.length + x.length) b.size - pre.length = x.length := by omega
    rw [a1, a2]
    simp
  refine KBc.slice_K (lo := some (posOf b (x ++ l'))) (hi := some (posOf b l')) hF hN rfl (.int _ _) (.int _ _) (by rw [KBw.ints_length]; exact hb) (fun h' t' k F' N' _ => ?_) hs ht
  rw [hx]
  exact h h' t' k F' N'
local macro_rules | `(tactic| walk_at "subscriptTail") => `(tactic| (k_here; (with_reducible show wpAny _ _ (subscriptTail _ (Expr.Slice _ _ none _) (Value.bytes _ _) (Value.ref _)) _ _ _); (with_reducible rename Fr _ _ _ _ => F'); (with_reducible rename News _ _ _ _ => N'); (refine slice_suf (s := ⟨_, _, _, _, _⟩) F' N' (by assumption) (by assumption) (by assumption) ?_); intro _ _ _ _ _))

theorem take_regular_ctr (w : World) (x dx : Nat) (k : CurK) (b : Array UInt8) (hb : b.size ≤ 16777216) (l : List UInt8) (hl : l <:+ b.toList) (ta : Nat) (news : Led) (h1 : dx < x) (h2 : ∀ p ∈ news, p.1 ≠ dx) :
    Ctr w 102 [.ref x] (curL x dx k b (posOf b l) ta news) (fun r n => (∃ t, r = .bytes (l.takeWhile regB).toArray t) ∧ ∃ ta', n = curL x dx k b (posOf b (l.dropWhile regB)) ta' news) 2 16 := by
  unfold Ctr
  k_fill
  intro dp un gd cn cs a ccd cl outer A₀ base h₀ L m s p loose mean mg mb Q E B F X N T hk hd hu hret
  refine wpAny_call ?_
  k_dflt cell_enter
  k_steps
  refine Stop.go ?_
  rename Fr _ _ _ _ => F1
  rename News _ _ _ _ => N1
  refine While_inv2 (fun n m₁ nx => ∃ y l₁ ta₁, l = y ++ l₁ ∧ (∀ c ∈ y, regB c = true) ∧ n = l₁.length ∧ Pins [(Str.ofString "first", .int (posOf b l) ta), (Str.ofString "self", .ref x)] m₁ ∧ nx = curL x dx k b (posOf b l₁) ta₁ news) (n₀ := l.length) F1 N1 ⟨[], l, ta, rfl, (fun _ h => nomatch h), rfl, ?_, rfl⟩ ?_
  · exact ⟨rfl, rfl, trivial⟩
  clear F1 N1
  rintro n m₁ nx h₁ tk₁ F1 N1 ⟨y, l₁, ta₁, he, hy, rfl, hm, rfl⟩
  replace F1 := fr_pin F1 hm
  dsimp only [pinM] at F1
  rcases l₁ with _ | ⟨c, r⟩
  · have hp := posOf_nil b
    have hsp := takeWhile_split (p := regB) (x := y) (r := []) hy (fun c s h => nomatch h)
    rw [← he] at hsp
    k_steps
    rename News _ _ _ _ => N9
    rename Fr _ _ _ _ => F9
    refine hret _ _ _ _ F9 N9 ⟨⟨_, by rw [hsp.1]⟩, ta₁, by rw [hsp.2]⟩
  have hp := posOf_lt b c r
  have hl₁ : (c :: r) <:+ b.toList := .trans ⟨y, he.symm⟩ hl
  k_steps
  · rename News _ _ _ _ => N3
    rename Fr _ _ _ _ => F3
    rename _ = true => e1
    rw [posOf_succ] at N3
    refine ws_next F3 N3 (Nat.lt_succ_self _) ⟨y ++ [c], r, _, ?_, ?_, rfl, ⟨rfl, rfl, trivial⟩, rfl⟩
    · rw [he, List.append_assoc]; rfl
    · intro c' h'
      rcases List.mem_append.mp h' with h' | h'
      · exact hy c' h'
      · rw [List.mem_singleton.mp h']; exact e1
  · rename _ = false => e1
    have hsp := takeWhile_split (p := regB) (x := y) (r := c :: r) hy (fun c s h => by cases h; exact e1)
    rw [← he] at hsp
    rename News _ _ _ _ => N9
    rename Fr _ _ _ _ => F9
    refine hret _ _ _ _ F9 N9 ⟨⟨_, by rw [hsp.1]⟩, ta₁, by rw [hsp.2]⟩

noncomputable def numI (ks : List Int) : Int := ks.foldl (fun n c => n * 10 + c - 48) 0
theorem numI_succ {ks : List Int} {i : Nat} {k : Int} (h : ks[i]? = some k) : numI (ks.take (i + 1)) = numI (ks.take i) * 10 + k - 48 := by
  unfold numI; rw [List.take_add_one, h]; simp
noncomputable def numL (x : List UInt8) : Int := numI (x.map fun c => (c.toNat : Int))
noncomputable def numOut (l : List UInt8) : Option Int := if 0 < (l.takeWhile figB).length ∧ (l.takeWhile figB).length ≤ 20 then some (numL (l.takeWhile figB)) else none
noncomputable def numRest (l : List UInt8) : List UInt8 := if (numOut l).isSome then l.dropWhile figB else l
theorem posOf_app (b : Array UInt8) (x r : List UInt8) : posOf b r - posOf b (x ++ r) = (x.length : Int) := by
  unfold posOf; rw [List.length_append]; omega
theorem numOut_yes {l y : List UInt8} (e : l.takeWhile figB = y) (h : 0 < (y.length : Int)) (h' : (y.length : Int) ≤ 20) : numOut l = some (numL y) := by
  unfold numOut; rw [e, if_pos ⟨by omega, by omega⟩]
theorem numOut_no {l y : List UInt8} (e : l.takeWhile figB = y) (h : ¬ (0 < (y.length : Int) ∧ (y.length : Int) ≤ 20)) : numOut l = none := by
  unfold numOut; rw [e, if_neg fun g => h ⟨by omega, by omega⟩]
noncomputable def valOf : Option Int → Tok → Value
  | none, _ => .none
  | some i, t => .int i t

theorem number_ctr (w : World) (x dx : Nat) (k : CurK) (b : Array UInt8) (hb : b.size ≤ 16777216) (l : List UInt8) (hl : l <:+ b.toList) (ta : Nat) (news : Led) (h1 : dx < x) (h2 : ∀ p ∈ news, p.1 ≠ dx) :
    Ctr w 123 [.ref x] (curL x dx k b (posOf b l) ta news) (fun r n => (∃ t, r = valOf (numOut l) t) ∧ ∃ ta', n = curL x dx k b (posOf b (numRest l)) ta' news) 2 16 := by
  unfold Ctr
  k_fill
  intro dp un gd cn cs a ccd cl outer A₀ base h₀ L m s p loose mean mg mb Q E B F X N T hk hd hu hret
  refine wpAny_call ?_
  k_dflt cell_enter
  k_steps
  refine Stop.go ?_
  rename Fr _ _ _ _ => F1
  rename News _ _ _ _ => N1
  refine While_inv2 (fun n m₁ nx => ∃ y l₁ ta₁, l = y ++ l₁ ∧ (∀ c ∈ y, figB c = true) ∧ n = l₁.length ∧ Pins [(Str.ofString "end", .int (posOf b l₁) ta₁), (Str.ofString "self", .ref x)] m₁ ∧ nx = curL x dx k b (posOf b l) ta news) (n₀ := l.length) F1 N1 ⟨[], l, ta, rfl, (fun _ h => nomatch h), rfl, ?_, rfl⟩ ?_
  · exact ⟨rfl, rfl, trivial⟩
  clear F1 N1
  rintro n m₁ nx h₁ tk₁ F1 N1 ⟨y, l₁, ta₁, he, hy, rfl, hm, rfl⟩
  replace F1 := fr_pin F1 hm
  dsimp only [pinM] at F1
  rcases l₁ with _ | ⟨c, r⟩
  · have hp := posOf_nil b
    have hsp := takeWhile_split (p := figB) (x := y) (r := []) hy (fun c s h => nomatch h)
    rw [← he] at hsp
    k_steps
    · refine Stop.go ?_
      rename News _ _ _ _ => N3
      rename Fr _ _ _ _ => F3
      with_unfolding_all refine' For_invVF F3 ?k1 ?k2 ?_
      case k1 => exact rfl
      case k2 => exact rfl
      k_steps
      refine Stop.go ?_
      rename News _ _ _ _ => N4
      rename Fr _ _ _ _ => F4
      refine KBmo.iter_bytesN (ks := y.map fun c => (c.toNat : Int)) (fun i m₂ nx => ∃ tn, Pins [(Str.ofString "number", .int (numI ((y.map fun c => (c.toNat : Int)).take i)) tn), (Str.ofString "end", .int (posOf b []) ta₁), (Str.ofString "self", .ref x)] m₂ ∧ nx = curL x dx k b (posOf b l) ta news) (KBw.ints_list y) rfl F4 N4 ⟨_, ⟨rfl, rfl, rfl, trivial⟩, rfl⟩ ?_ ?_
      · clear F4 N4
        rintro i kk t m₃ nx h₃ tk₃ own hkk hk0 hk1 hoff ⟨tn, hm₃, rfl⟩ F3 N3
        rw [← pinM_eq hm₃] at F3
        dsimp only [pinM] at F3
        k_steps
        rename News _ _ _ _ => N5
        rename Fr _ _ _ _ => F5
        exact InvEndN.intro F5 N5 ⟨_, ⟨by rw [numI_succ hkk]; rfl, rfl, rfl, trivial⟩, rfl⟩ rfl (fun p hp => List.mem_append_left _ hp) (fun p hp => List.mem_append_right _ hp)
      · clear F4 N4
        rintro m₃ nx h₃ tk₃ ⟨tn, hm₃, rfl⟩ F3 N3
        replace F3 := fr_pin F3 hm₃
        dsimp only [pinM] at F3
        k_steps
        rename News _ _ _ _ => N9
        rename Fr _ _ _ _ => F9
        rename 0 < _ => g1
        rename _ ≤ (20 : Int) => g2
        refine hret _ _ _ _ F9 N9 ?_
        have hyes := numOut_yes hsp.1 (by have := posOf_app b y []; rw [← he] at this; omega) (by have := posOf_app b y []; rw [← he] at this; omega)
        rw [List.take_length]
        exact ⟨⟨_, by rw [hyes]; rfl⟩, _, by unfold numRest; rw [hyes, hsp.2]; rfl⟩
    · rename News _ _ _ _ => N9
      rename Fr _ _ _ _ => F9
      rename ¬ _ => hg
      refine hret _ _ _ _ F9 N9 ?_
      have hno := numOut_no hsp.1 fun g => hg (by have := posOf_app b y []; rw [← he] at this; omega)
      exact ⟨⟨0, by rw [hno]; rfl⟩, ta, by unfold numRest; rw [hno]; rfl⟩
    · rename News _ _ _ _ => N9
      rename Fr _ _ _ _ => F9
      rename ¬ _ => hg
      refine hret _ _ _ _ F9 N9 ?_
      have hno := numOut_no hsp.1 fun g => hg (by have := posOf_app b y []; rw [← he] at this; omega)
      exact ⟨⟨0, by rw [hno]; rfl⟩, ta, by unfold numRest; rw [hno]; rfl⟩
  have hp := posOf_lt b c r
  have hl₁ : (c :: r) <:+ b.toList := .trans ⟨y, he.symm⟩ hl
  by_cases hf : figB c = true
  · have hf' : (decide (48 ≤ (c.toNat : Int)) && decide ((c.toNat : Int) ≤ 57)) = true := hf
    k_steps
    rename News _ _ _ _ => N3
    rename Fr _ _ _ _ => F3
    rw [posOf_succ] at F3
    refine ws_next F3 N3 (Nat.lt_succ_self _) ⟨y ++ [c], r, _, ?_, ?_, rfl, ⟨rfl, rfl, trivial⟩, rfl⟩
    · rw [he, List.append_assoc]; rfl
    · intro c' h'
      rcases List.mem_append.mp h' with h' | h'
      · exact hy c' h'
      · rw [List.mem_singleton.mp h']; exact hf
  have hf0 : figB c = false := by simpa using hf
  have hf' : (decide (48 ≤ (c.toNat : Int)) && decide ((c.toNat : Int) ≤ 57)) = false := hf0
  have hsp := takeWhile_split (p := figB) (x := y) (r := c :: r) hy (fun c s h => by cases h; exact hf0)
  rw [← he] at hsp
  k_steps
  · refine Stop.go ?_
    rename News _ _ _ _ => N3
    rename Fr _ _ _ _ => F3
    with_unfolding_all refine' For_invVF F3 ?k1 ?k2 ?_
    case k1 => exact rfl
    case k2 => exact rfl
    k_steps
    refine Stop.go ?_
    rename News _ _ _ _ => N4
    rename Fr _ _ _ _ => F4
    refine KBmo.iter_bytesN (ks := y.map fun c => (c.toNat : Int)) (fun i m₂ nx => ∃ tn, Pins [(Str.ofString "number", .int (numI ((y.map fun c => (c.toNat : Int)).take i)) tn), (Str.ofString "end", .int (posOf b (c :: r)) ta₁), (Str.ofString "self", .ref x)] m₂ ∧ nx = curL x dx k b (posOf b l) ta news) (KBw.ints_list y) rfl F4 N4 ⟨_, ⟨rfl, rfl, rfl, trivial⟩, rfl⟩ ?_ ?_
    · clear F4 N4
      rintro i kk t m₃ nx h₃ tk₃ own hkk hk0 hk1 hoff ⟨tn, hm₃, rfl⟩ F3 N3
      rw [← pinM_eq hm₃] at F3
      dsimp only [pinM] at F3
      k_steps
      rename News _ _ _ _ => N5
      rename Fr _ _ _ _ => F5
      exact InvEndN.intro F5 N5 ⟨_, ⟨by rw [numI_succ hkk]; rfl, rfl, rfl, trivial⟩, rfl⟩ rfl (fun p hp => List.mem_append_left _ hp) (fun p hp => List.mem_append_right _ hp)
    · clear F4 N4
      rintro m₃ nx h₃ tk₃ ⟨tn, hm₃, rfl⟩ F3 N3
      replace F3 := fr_pin F3 hm₃
      dsimp only [pinM] at F3
      k_steps
      rename News _ _ _ _ => N9
      rename Fr _ _ _ _ => F9
      rename 0 < _ => g1
      rename _ ≤ (20 : Int) => g2
      refine hret _ _ _ _ F9 N9 ?_
      have hyes := numOut_yes hsp.1 (by have := posOf_app b y (c :: r); rw [← he] at this; omega) (by have := posOf_app b y (c :: r); rw [← he] at this; omega)
      rw [List.take_length]
      exact ⟨⟨_, by rw [hyes]; rfl⟩, _, by unfold numRest; rw [hyes, hsp.2]; rfl⟩
  · rename News _ _ _ _ => N9
    rename Fr _ _ _ _ => F9
    rename ¬ _ => hg
    refine hret _ _ _ _ F9 N9 ?_
    have hno := numOut_no hsp.1 fun g => hg (by have := posOf_app b y (c :: r); rw [← he] at this; omega)
    exact ⟨⟨0, by rw [hno]; rfl⟩, ta, by unfold numRest; rw [hno]; rfl⟩
  · rename News _ _ _ _ => N9
    rename Fr _ _ _ _ => F9
    rename ¬ _ => hg
    refine hret _ _ _ _ F9 N9 ?_
    have hno := numOut_no hsp.1 fun g => hg (by have := posOf_app b y (c :: r); rw [← he] at this; omega)
    exact ⟨⟨0, by rw [hno]; rfl⟩, ta, by unfold numRest; rw [hno]; rfl⟩

theorem dropCom_suf : ∀ l, dropCom l <:+ l
  | [] => List.suffix_refl _
  | c :: r => by unfold dropCom; split; exact List.suffix_refl _; exact (dropCom_suf r).trans (List.suffix_cons c r)
theorem skipW_suf (l : List UInt8) : skipW l <:+ l := by
  induction h : l.length using Nat.strongRecOn generalizing l with
  | ind n ih =>
    rcases l with _ | ⟨c, r⟩
    · rw [skipW_nil]; exact List.suffix_refl _
    · subst h
      by_cases hc : c = 37
      · subst hc
        rw [skipW_com]
        exact ((ih _ (Nat.lt_succ_of_le (dropCom_le r)) _ rfl).trans (dropCom_suf r)).trans (List.suffix_cons _ r)
      · cases hw : white (c.toNat : Int) with
        | true => rw [skipW_white r hc hw]; exact (ih _ (Nat.lt_succ_self _) _ rfl).trans (List.suffix_cons _ r)
        | false => rw [skipW_stop r hc hw]; exact List.suffix_refl _
theorem Ctr.mono {w : World} {f : Addr} {vs : List Value} {news : Led} {Out Out' : Value → Led → Prop} {d u : Nat} (C : Ctr w f vs news Out d u) (h : ∀ r n, Out r n → Out' r n) : Ctr w f vs news Out' d u := by
  unfold Ctr at *
  intro dp un gd cn cs a ccd cl outer A₀ base h₀ L m s p loose mean mg mb Q E B F X N T hk hd hu hret
  exact C dp un gd cn cs a ccd cl outer A₀ base h₀ L m s p loose mean mg mb Q E B F X N T hk hd hu fun r n h' tk' F' N' o => hret r n h' tk' F' N' (h r n o)

theorem skip_white2 (w : World) (x dx : Nat) (k : CurK) (b : Array UInt8) (hb : b.size ≤ 16777216) (l : List UInt8) (hl : l <:+ b.toList) (ta : Nat) (news : Led) (h1 : dx < x) (h2 : ∀ p ∈ news, p.1 ≠ dx) :
    Ctr w 95 [.ref x] (curL x dx k b (posOf b l) ta news) (fun r n => r = .none ∧ ∃ ta', n = curL x dx k b (posOf b (skipW l)) ta' news ∧ skipW l <:+ b.toList) 1 8 :=
  (skip_white_ctr w x dx k b hb l hl ta news h1 h2).mono fun r n ⟨e, ta', e'⟩ => ⟨e, ta', e', (skipW_suf l).trans hl⟩
theorem take_regular2 (w : World) (x dx : Nat) (k : CurK) (b : Array UInt8) (hb : b.size ≤ 16777216) (l : List UInt8) (hl : l <:+ b.toList) (ta : Nat) (news : Led) (h1 : dx < x) (h2 : ∀ p ∈ news, p.1 ≠ dx) :
    Ctr w 102 [.ref x] (curL x dx k b (posOf b l) ta news) (fun r n => ∃ t ta', r = .bytes (l.takeWhile regB).toArray t ∧ n = curL x dx k b (posOf b (l.dropWhile regB)) ta' news) 2 16 :=
  (take_regular_ctr w x dx k b hb l hl ta news h1 h2).mono fun r n ⟨⟨t, e⟩, ta', e'⟩ => ⟨t, ta', e, e'⟩
theorem number2 (w : World) (x dx : Nat) (k : CurK) (b : Array UInt8) (hb : b.size ≤ 16777216) (l : List UInt8) (hl : l <:+ b.toList) (ta : Nat) (news : Led) (h1 : dx < x) (h2 : ∀ p ∈ news, p.1 ≠ dx) :
    Ctr w 123 [.ref x] (curL x dx k b (posOf b l) ta news) (fun r n => (numOut l = none ∧ r = .none ∧ ∃ ta', n = curL x dx k b (posOf b l) ta' news) ∨
      (∃ i t, numOut l = some i ∧ r = .int i t ∧ ∃ ta', n = curL x dx k b (posOf b (l.dropWhile figB)) ta' news ∧ l.dropWhile figB <:+ b.toList)) 2 16 :=
  (number_ctr w x dx k b hb l hl ta news h1 h2).mono fun r n ⟨⟨t, e⟩, ta', e'⟩ => by
    unfold numRest at e'
    cases h : numOut l with
    | none => rw [h] at e e'; exact .inl ⟨rfl, e, ta', e'⟩
    | some i => rw [h] at e e'; exact .inr ⟨i, t, rfl, e, ta', e', (List.dropWhile_suffix _).trans hl⟩

local macro_rules | `(tactic| walk_at "mine cur") => `(tactic| (walk_at "mine sides"; (case hb => assumption); (case hl => assumption); (case h1 => assumption); (case h2 => assumption)))
local macro_rules | `(tactic| walk_at "call ref") => `(tactic| (k_here; k_dflt (refine' Ctr.use (skip_white2 _ _ _ _ _ ?hb _ ?hl _ _ ?h1 ?h2) ?k1 ?k2 ?k3 ?k4 ?k5 ?k6 ?k7 ?k8 ?_; walk_at "mine cur"; intro r' n' h' tk' F' N' O'; obtain ⟨e1', ta', e2', hl'⟩ := O'; subst e1'; subst e2'; (try dsimp only))))
local macro_rules | `(tactic| walk_at "call ref") => `(tactic| (k_here; k_dflt (refine' Ctr.use (take_regular2 _ _ _ _ _ ?hb _ ?hl _ _ ?h1 ?h2) ?k1 ?k2 ?k3 ?k4 ?k5 ?k6 ?k7 ?k8 ?_; walk_at "mine cur"; intro r' n' h' tk' F' N' O'; obtain ⟨t', ta', e1', e2'⟩ := O'; subst e1'; subst e2'; (try dsimp only))))
local macro_rules | `(tactic| walk_at "call ref") => `(tactic| (k_here; k_dflt (refine' Ctr.use (number2 _ _ _ _ _ ?hb _ ?hl _ _ ?h1 ?h2) ?k1 ?k2 ?k3 ?k4 ?k5 ?k6 ?k7 ?k8 ?_; walk_at "mine cur"; intro r' n' h' tk' F' N' O'; (rcases O' with ⟨hno', e1', ta', e2'⟩ | ⟨i', t', hno', e1', ta', e2', hl'⟩) <;> (subst e1'; subst e2'; (try dsimp only)))))

theorem passes_white_ctr (w : World) (x dx : Nat) (k : CurK) (b : Array UInt8) (hb : b.size ≤ 16777216) (l : List UInt8) (hl : l <:+ b.toList) (ta : Nat) (news : Led) (h1 : dx < x) (h2 : ∀ p ∈ news, p.1 ≠ dx) :
    Ctr w 179 [.ref x] (curL x dx k b (posOf b l) ta news) (fun r n => r = .bool (decide ((skipW l).length < l.length)) ∧ ∃ ta', n = curL x dx k b (posOf b (skipW l)) ta' news ∧ skipW l <:+ b.toList) 2 16 := by
  unfold Ctr
  k_fill
  intro dp un gd cn cs a ccd cl outer A₀ base h₀ L m s p loose mean mg mb Q E B F X N T hk hd hu hret
  refine wpAny_call ?_
  k_dflt cell_enter
  k_steps
  rename Fr _ _ _ _ => F9
  rename skipW l <:+ b.toList => hs9
  rename News h₀ L _ _ => N9
  refine hret _ _ _ _ F9 N9 ⟨?_, _, rfl, hs9⟩
  congr 1
  exact decide_eq_decide.mpr ⟨fun h => by unfold posOf at h; omega, fun h => by unfold posOf; omega⟩

local macro_rules | `(tactic| walk_at "call ref") => `(tactic| (k_here; k_dflt (refine' Ctr.use (passes_white_ctr _ _ _ _ _ ?hb _ ?hl _ _ ?h1 ?h2) ?k1 ?k2 ?k3 ?k4 ?k5 ?k6 ?k7 ?k8 ?_; walk_at "mine cur"; intro r' n' h' tk' F' N' O'; obtain ⟨e1', ta', e2', hl'⟩ := O'; subst e1'; subst e2'; (try dsimp only))))

noncomputable def objW : List UInt8 := [111, 98, 106]
noncomputable def headOut (l : List UInt8) : Option (Int × Int) :=
  match numOut l with
  | none => none
  | some n =>
    let l2 := skipW (l.dropWhile figB)
    if l2.length < (l.dropWhile figB).length then
      match numOut l2 with
      | none => none
      | some g =>
        let l4 := skipW (l2.dropWhile figB)
        if l4.length < (l2.dropWhile figB).length ∧ l4.takeWhile regB = objW then some (n, g) else none
    else none
abbrev tupO (vs : List Value) : Obj := { cls := .type "tuple", data := .seq vs.toArray }
noncomputable def HeadRes (o : Option (Int × Int)) (news : Led) (r : Value) (n : Led) : Prop :=
  match o with
  | none => r = .none ∧ n = news
  | some (i, j) => ∃ a t u, r = .ref a ∧ n = (a, tupO [.int i t, .int j u]) :: news ∧ ∀ p ∈ news, p.1 < a


local macro_rules | `(tactic| walk_at "mine enter") => `(tactic| (k_dflt (refine' code_def ?k1 ?k2 ?k3 ?k4 ?k5 ?kA ?kF ?kK ?k6 ?k7 ?k8 ?k9 ?kB ?_ ?c2 ?c3 ?c4 ?c5; (case kA => exact rfl); (case kF => exact rfl); (case kK => assumption); (case k1 => k_asm); (case k2 => k_asm); (case k3 => k_asm); (case k4 => k_asm); (case k5 => k_asm); (case k6 => k_is); (case k7 => k_is); (case k8 => ktr_room); (case k9 => first | exact BindsTo.of_eq rfl | exact binds_K (by k_in) rfl (by k_is) rfl rfl rfl); (case c5 => decide); (case kB => exact locs rfl); (case c2 => exact rfl); (case c3 => exact rfl); (case c4 => exact rfl); k_whole; intro g' L' h' FG' F' N' B' X' T'; (try dsimp only); (try k_lift B'); (try k_fold))))
theorem cursor_new (w : World) (b : Array UInt8) (hb : b.size ≤ 16777216) (tb : Tok) (o : Int) (to : Tok) (news : Led) :
    Ctr w 140 [.bytes b tb, .int o to] news (fun r n => ∃ (x dx : Nat) (k : CurK) (ta : Nat), r = .ref x ∧ n = curL x dx k b o ta news ∧ dx < x ∧ ∀ p ∈ news, @LT.lt Nat _ p.1 dx) 2 16 := by
  unfold Ctr
  k_fill
  intro dp un gd cn cs a ccd cl outer A₀ base h₀ L m s p loose mean mg mb Q E B F X N T hk hd hu hret
  k_dflt (refine' call_cls ?k1 ?k2 ?k3 ?k4 ?k5 ?k6 ?_; (case k1 => k_asm); (case k2 => k_asm); (case k3 => k_asm); (case k4 => k_is); (case k5 => k_is); (case k6 => k_is); intro x dx h' F' N' l1 l2)
  have l1' := l1
  k_lt2 l2
  walk_at "mine enter"
  k_steps
  rename Fr h₀ L _ _ => F9
  rename News h₀ L _ _ => N9
  refine hret _ _ _ _ F9 N9 ⟨x, dx, ⟨_, _, _, _, _, _, _, _⟩, _, rfl, rfl, l2, l1'⟩

theorem ne_of_lt_all {news : Led} {dx : Nat} (h : ∀ p ∈ news, @LT.lt Nat _ p.1 dx) : ∀ p ∈ news, p.1 ≠ dx := fun p hp => Nat.ne_of_lt (h p hp)
local macro_rules | `(tactic| walk_at "call ref") => `(tactic| (k_here; k_dflt (refine' Ctr.use (cursor_new _ _ ?hb _ _ _ _) ?k1 ?k2 ?k3 ?k4 ?k5 ?k6 ?k7 ?k8 ?_; walk_at "mine sides"; (case hb => assumption); intro r' n' h' tk' F' N' O'; obtain ⟨x', dx', k', ta', e1', e2', lx', lp'⟩ := O'; subst e1'; subst e2'; (have ln' := ne_of_lt_all lp'); (try dsimp only))))
theorem head_at_ctr (w : World) (b : Array UInt8) (hb : b.size ≤ 16777216) (tb : Tok) (l : List UInt8) (hl : l <:+ b.toList) (ta : Nat) (news : Led) :
    Ctr w 186 [.bytes b tb, .int (posOf b l) ta] news (fun r n => HeadRes (headOut l) news r n) 4 32 := by
  unfold Ctr
  k_fill
  intro dp un gd cn cs a ccd cl outer A₀ base h₀ L m s p loose mean mg mb Q E B F X N T hk hd hu hret
  refine wpAny_call ?_
  k_dflt cell_enter
  k_steps
  · rename Fr h₀ L _ _ => F9
    rename News h₀ L _ _ => N9
    refine hret _ _ _ _ F9 (news_sub N9 fun p hp => .tail _ (.tail _ hp)) ?_
    rename numOut l = none => e1
    have e : headOut l = none := by simp only [headOut, e1]
    rw [e]; exact ⟨rfl, rfl⟩
  · rename Fr h₀ L _ _ => F9
    rename News h₀ L _ _ => N9
    refine hret _ _ _ _ F9 (news_sub N9 fun p hp => .tail _ (.tail _ hp)) ?_
    rename numOut l = some _ => e1
    rename numOut _ = none => e2
    rename _ < _ => e3
    have e : headOut l = none := by simp only [headOut, e1, e2, if_pos e3]
    rw [e]; exact ⟨rfl, rfl⟩
  · rename Fr h₀ L _ _ => F9
    rename News h₀ L _ _ => N9
    refine hret _ _ _ _ F9 (news_sub N9 fun p hp => .tail _ (.tail _ hp)) ?_
    rename numOut l = some _ => e1
    rename numOut (skipW _) = some _ => e2
    rename (_ != _) = true => e4
    have e5 : ¬ (List.takeWhile regB (skipW (List.dropWhile figB (skipW (List.dropWhile figB l)))) = objW) := by
      intro g; rw [g] at e4; exact absurd e4 (by decide)
    have e : headOut l = none := by
      rename (skipW (List.dropWhile figB l)).length < _ => e3
      simp only [headOut, e1, e2, if_pos e3]
      exact if_neg fun g => e5 g.2
    rw [e]; exact ⟨rfl, rfl⟩
  · rename Fr h₀ L _ _ => F9
    rename News h₀ L _ _ => N9
    rename _ ∧ _ ∧ AllLt _ news => l9
    refine hret _ _ _ _ F9 (news_sub (l' := _ :: news) N9 fun p hp => (List.mem_cons.mp hp).elim (fun h => h ▸ .head _) fun h => .tail _ (.tail _ (.tail _ h))) ?_
    rename numOut l = some _ => e1
    rename numOut (skipW _) = some _ => e2
    rename (_ != _) = false => e4
    have e5 : List.takeWhile regB (skipW (List.dropWhile figB (skipW (List.dropWhile figB l)))) = objW := by unfold objW; simpa using e4
    rename (skipW (List.dropWhile figB l)).length < _ => e3
    rename (skipW (List.dropWhile figB (skipW _))).length < _ => e6
    simp only [headOut, e1, e2, if_pos e3, if_pos (And.intro e6 e5)]
    exact ⟨_, _, _, rfl, rfl, ktn_ltOf l9.2.2⟩
  · rename Fr h₀ L _ _ => F9
    rename News h₀ L _ _ => N9
    refine hret _ _ _ _ F9 (news_sub N9 fun p hp => .tail _ (.tail _ hp)) ?_
    rename numOut l = some _ => e1
    rename numOut (skipW _) = some _ => e2
    rename (skipW (List.dropWhile figB l)).length < _ => e3
    rename ¬ _ => e6
    have e : headOut l = none := by
      simp only [headOut, e1, e2, if_pos e3]
      exact if_neg fun g => e6 g.1
    rw [e]; exact ⟨rfl, rfl⟩
  · rename Fr h₀ L _ _ => F9
    rename News h₀ L _ _ => N9
    refine hret _ _ _ _ F9 (news_sub N9 fun p hp => .tail _ (.tail _ hp)) ?_
    rename numOut l = some _ => e1
    rename ¬ _ => e6
    have e : headOut l = none := by
      simp only [headOut, e1, if_neg e6]
    rw [e]; exact ⟨rfl, rfl⟩

local macro_rules | `(tactic| k_mem) => `(tactic| assumption)
noncomputable def meetOut (l : List UInt8) (n g : Int) : Bool :=
  let l1 := skipW l
  match numOut l1 with
  | none => false
  | some i =>
    if i = n then
      let l2 := skipW (l1.dropWhile figB)
      match numOut l2 with
      | none => false
      | some j => if j = g then decide ((skipW (l2.dropWhile figB)).takeWhile regB = objW) else false
    else false
structure EntK where
  (h1 h2 h3 : Int) (k1 k2 k3 tw to tg : Nat)
abbrev entD (k : EntK) (o g : Int) : Obj :=
  dictOf [⟨k.h1, .str (Str.ofString "way") k.k1, .str (Str.ofString "used") k.tw⟩, ⟨k.h2, .str (Str.ofString "one") k.k2, .int o k.to⟩, ⟨k.h3, .str (Str.ofString "two") k.k3, .int g k.tg⟩] 3

theorem meets_ctr (w : World) (b : Array UInt8) (hb : b.size ≤ 16777216) (tb : Tok) (l : List UInt8) (hl : l <:+ b.toList) (n : Int) (tn : Tok) (g : Int) (x dx : Nat) (k : EntK) (news : Led) (hx : (x, instObj 224 dx) ∈ news) (hdx : (dx, entD k (posOf b l) g) ∈ news) (hp : 0 ≤ posOf b l) (hlt : posOf b l < (b.size : Int)) :
    Ctr w 235 [.bytes b tb, .int n tn, .ref x] news (fun r n' => r = .bool (meetOut l n g) ∧ n' = news) 4 32 := by
  unfold Ctr
  k_fill
  intro dp un gd cn cs a ccd cl outer A₀ base h₀ L m s p loose mean mg mb Q E B F X N T hk hd hu hret
  refine wpAny_call ?_
  k_dflt cell_enter
  k_steps
  · rename Fr h₀ L _ _ => F9
    rename News h₀ L _ _ => N9
    rename numOut (skipW l) = none => e1
    refine hret _ _ _ _ F9 (news_sub N9 fun p hp => .tail _ (.tail _ hp)) ⟨?_, rfl⟩
    simp only [meetOut, e1]
  · rename Fr h₀ L _ _ => F9
    rename News h₀ L _ _ => N9
    rename numOut (skipW l) = some _ => e1
    rename _ ≠ n => e2
    refine hret _ _ _ _ F9 (news_sub N9 fun p hp => .tail _ (.tail _ hp)) ⟨?_, rfl⟩
    simp only [meetOut, e1, if_neg e2]
  · rename Fr h₀ L _ _ => F9
    rename News h₀ L _ _ => N9
    rename numOut (skipW l) = some _ => e1
    rename _ = n => e2
    rename numOut (skipW _) = none => e3
    refine hret _ _ _ _ F9 (news_sub N9 fun p hp => .tail _ (.tail _ hp)) ⟨?_, rfl⟩
    simp only [meetOut, e1, if_pos e2, e3]
  · rename Fr h₀ L _ _ => F9
    rename News h₀ L _ _ => N9
    rename numOut (skipW l) = some _ => e1
    rename _ = n => e2
    rename numOut (skipW (List.dropWhile figB (skipW l))) = some _ => e3
    rename _ ≠ g => e4
    refine hret _ _ _ _ F9 (news_sub N9 fun p hp => .tail _ (.tail _ hp)) ⟨?_, rfl⟩
    simp only [meetOut, e1, if_pos e2, e3, if_neg e4]
  · rename Fr h₀ L _ _ => F9
    rename News h₀ L _ _ => N9
    rename numOut (skipW l) = some _ => e1
    rename _ = n => e2
    rename numOut (skipW (List.dropWhile figB (skipW l))) = some _ => e3
    rename _ = g => e4
    refine hret _ _ _ _ F9 (news_sub N9 fun p hp => .tail _ (.tail _ hp)) ⟨?_, rfl⟩
    simp only [meetOut, e1, if_pos e2, e3, if_pos e4]
    congr 1
    rw [Bool.eq_iff_iff, beq_iff_eq, decide_eq_true_eq, objW]

theorem meets_out (w : World) (b : Array UInt8) (hb : b.size ≤ 16777216) (tb : Tok) (n : Int) (tn : Tok) (o g : Int) (x dx : Nat) (k : EntK) (news : Led) (hx : (x, instObj 224 dx) ∈ news) (hdx : (dx, entD k o g) ∈ news) (hp : 0 ≤ o) (hlt : ¬ o < (b.size : Int)) :
    Ctr w 235 [.bytes b tb, .int n tn, .ref x] news (fun r n' => r = .bool false ∧ n' = news) 4 32 := by
  unfold Ctr
  k_fill
  intro dp un gd cn cs a ccd cl outer A₀ base h₀ L m s p loose mean mg mb Q E B F X N T hk hd hu hret
  refine wpAny_call ?_
  k_dflt cell_enter
  k_steps
  rename Fr h₀ L _ _ => F9
  rename News h₀ L _ _ => N9
  exact hret _ _ _ _ F9 N9 ⟨rfl, rfl⟩

theorem Ctr.conv {w : World} {f : Addr} {vs : List Value} {l l' : Led} {Out Out' : Value → Led → Prop} {d u : Nat} (C : Ctr w f vs l Out d u) (h1 : ∀ p ∈ l, p ∈ l') (h2 : ∀ r n, Out r n → ∃ n', (∀ p ∈ n', p ∈ n) ∧ Out' r n') : Ctr w f vs l' Out' d u := by
  unfold Ctr at *
  intro dp un gd cn cs a ccd cl outer A₀ base h₀ L m s p loose mean mg mb Q E B F X N T hk hd hu hret
  refine C dp un gd cn cs a ccd cl outer A₀ base h₀ L m s p loose mean mg mb Q E B F X (news_sub N h1) T hk hd hu fun r n h' tk' F' N' o => ?_
  obtain ⟨n', hs, o'⟩ := h2 r n o
  exact hret r n' h' tk' F' (news_sub N' hs) o'

abbrev tapeO (d s c : Int) (t1 t2 t3 n : Nat) : Obj := listOf #[.int d t1, .int s t2, .int c t3] n
noncomputable def DrawOut (tp : Addr) (s c : Int) (many : Int) (g : Obj → Led) (r : Value) (l : Led) : Prop :=
  ∃ dg d' c' t t1 t2 t3 n, r = .int dg t ∧ l = g (tapeO d' s c' t1 t2 t3 n) ∧ 0 ≤ dg ∧ dg < many ∧ 0 ≤ d' ∧ 0 ≤ c' ∧ c' ≤ c + 1

local macro_rules | `(tactic| walk_at "binaryOp Pow int int") => `(tactic| (k_here; refine pow_int_small (by decide) (by decide) (by ((try simp only [Int.reduceToNat, List.getD_cons_zero, List.getD_cons_succ]); omega)) ?_))
local macro_rules | `(tactic| walk_at "binaryOp FloorDiv int int") => `(tactic| (k_here; refine floordiv_int (by assumption) ?_))
theorem draw_ctr (w : World) (tp : Nat) (d s c : Int) (t1 t2 t3 n : Nat) (many : Int) (tm : Nat) (news : Led) (hm : 0 < many) (hm1 : many ≤ 1000) (hd0 : 0 ≤ d) (hs0 : 0 ≤ s) (hs1 : s < 1000000007) (hc0 : 0 ≤ c) (hc1 : c < 1000000) (h2 : ∀ p ∈ news, p.1 ≠ tp) :
    Ctr w 252 [.ref tp, .int many tm] ((tp, tapeO d s c t1 t2 t3 n) :: news) (DrawOut tp s c many fun o => (tp, o) :: news) 1 8 := by
  unfold Ctr
  k_fill
  intro dp un gd cn cs a ccd cl outer A₀ base h₀ L m s p loose mean mg mb Q E B F X N T hk hd hu hret
  have hm' : many ≠ 0 := by omega
  refine wpAny_call ?_
  k_dflt cell_enter
  k_steps
  · rename Fr h₀ L _ _ => F9
    rename News h₀ L _ _ => N9
    have g0 : ∀ z : Int, 0 ≤ z.fmod 1000000007 := fun z => Int.fmod_nonneg_of_pos z (by decide)
    exact hret _ _ _ _ F9 N9 ⟨_, _, _, _, _, _, _, _, rfl, rfl, Int.fmod_nonneg_of_pos _ hm, Int.fmod_lt_of_pos _ hm, Int.fdiv_nonneg (g0 _) (Int.le_of_lt hm), (by show 0 ≤ c + 1; omega), (by show c + 1 ≤ c + 1; omega)⟩
  · rename Fr h₀ L _ _ => F9
    rename News h₀ L _ _ => N9
    exact hret _ _ _ _ F9 N9 ⟨_, _, _, _, _, _, _, _, rfl, rfl, Int.fmod_nonneg_of_pos _ hm, Int.fmod_lt_of_pos _ hm, Int.fdiv_nonneg hd0 (Int.le_of_lt hm), hc0, (by omega)⟩

theorem draw_U (w : World) (tp : Nat) (d s c : Int) (t1 t2 t3 n : Nat) (many : Int) (tm : Nat) (news : Led) (g : Obj → Led) (U : UpdF tp (tapeO d s c t1 t2 t3 n) news g) (hm : 0 < many) (hm1 : many ≤ 1000) (hd0 : 0 ≤ d) (hs0 : 0 ≤ s) (hs1 : s < 1000000007) (hc0 : 0 ≤ c) (hc1 : c < 1000000) :
    Ctr w 252 [.ref tp, .int many tm] news (DrawOut tp s c many g) 1 8 := by
  obtain ⟨pre, post, rfl, hg, h1, h2⟩ := U.split
  refine (draw_ctr w tp d s c t1 t2 t3 n many tm (pre ++ post) hm hm1 hd0 hs0 hs1 hc0 hc1 fun p hp => (List.mem_append.mp hp).elim (h1 p) (h2 p)).conv ?_ ?_
  · intro p hp
    rcases List.mem_cons.mp hp with rfl | hp
    · exact List.mem_append_right _ (.head _)
    · exact (List.mem_append.mp hp).elim (fun h => List.mem_append_left _ h) fun h => List.mem_append_right _ (.tail _ h)
  · rintro r l ⟨dg, d', c', t, t1, t2, t3, n, rfl, rfl, r9⟩
    refine ⟨g (tapeO d' s c' t1 t2 t3 n), ?_, _, _, _, _, _, _, _, _, rfl, rfl, r9⟩
    intro p hp
    rw [hg] at hp
    rcases List.mem_append.mp hp with hp | hp
    · exact .tail _ (List.mem_append_left _ hp)
    · rcases List.mem_cons.mp hp with rfl | hp
      · exact .head _
      · exact .tail _ (List.mem_append_right _ hp)

noncomputable def noughts : Nat → List UInt8 := fun n => List.replicate n 48
noncomputable def decOf (n : Nat) : List UInt8 := (toString n).toList.map fun c => c.toNat.toUInt8
noncomputable def figOut (n form : Nat) : List UInt8 := noughts ([0, 0, 1, 20 - (decOf n).length, 21 - (decOf n).length].getD form 0) ++ decOf n
theorem draw_all {P : Value → Led → Prop} {tp : Addr} {s c : Int} {many : Int} {g : Obj → Led} (k : ∀ (dg d' c' : Int) (t t1 t2 t3 n : Nat), 0 ≤ dg → dg < many → 0 ≤ d' → 0 ≤ c' → c' ≤ c + 1 → P (.int dg t) (g (tapeO d' s c' t1 t2 t3 n))) :
    ∀ r n, DrawOut tp s c many g r n → P r n := by
  rintro _ _ ⟨dg, d', c', t, t1, t2, t3, n, rfl, rfl, b1, b2, b3, b4, b5⟩
  exact k dg d' c' t t1 t2 t3 n b1 b2 b3 b4 b5
local macro_rules | `(tactic| walk_at "eval ListComp") => `(tactic| refine Stop.mk ?_)
local macro_rules | `(tactic| walk_at "pyIter str") => `(tactic| refine Stop.mk ?_)

section
open LCg
variable {prog : Program} {w : World} {A : Around} {E : Value → Shared → Prop} {s : Shared} {h₀ : Heap} {L : Addr} {m : Str → Option Value} {env : Env}
noncomputable def SrcW (prog : Program) (w : World) (A : Around) (h₀ : Heap) (L : Addr) (m : Str → Option Value) (env : Env) (elt : Expr) (x : Str) (scope : Scope) (cl : List (Str × Addr)) (Fin : Shared → List Value → Led → Prop) (it : Value) (s₂ : Shared) : Prop :=
  ∃ (I : Addr) (fp : List Addr) (n : Nat) (P : Nat → Value → Prop) (St : Nat → Heap → Prop) (S : Led → Prop) (news : Led), it = .ref I ∧ Walks prog w A I fp [I] n P St ∧ n ≤ sizeLine ∧ (∀ i h, St i h → ∃ o, h.get? I = some o) ∧
    (∀ i h h' o nw, St i h → h.get? I = some o → h'.get? I = some o → (∀ b o, h₀.get? b = some o → h'.get? b = some o) → News h₀ L h' nw → S nw → St i h') ∧
    St 0 s₂.heap ∧ (∀ b ∈ fp, b < s₂.heap.objs.size) ∧ Fr h₀ L s₂.heap m ∧ News h₀ L s₂.heap news ∧ L ≠ I ∧ h₀.get? I = none ∧ (∀ p ∈ news, p.1 ≠ I) ∧ S news ∧
    CompRest prog w A h₀ L m env elt x scope cl s₂ S P (Fin s₂) n 0 [] news
theorem ListComp_W {elt iter : PySem.Expr} {x : Str} {px : Pos} {scope : Scope} {cl : List (Str × Addr)} {pos : Pos} {Q : Value → Shared → Prop} (F₀ : Fr h₀ L s.heap m)
    (hclos : closureFor scope env = pure cl) (hcell : ∀ y ∈ scope.names, y.2 ≠ .cell) (hkind : scope.kind = .function)
    (hnames : ∀ y ∈ scope.names, y.2 = .local → scope.names.lookup y.1 = some .local) (hx : scope.names.lookup x = some .local)
    (h : wpAny (model prog w) A (eval iter env) (fun xv s₁ => wpAny (model prog w) A (pyIter xv) (SrcW prog w A h₀ L m env elt x scope cl (fun s₂ => FinE h₀ L m s₂ Q)) E s₁) E s)
    (hs : ∀ x, foldedSetIterable iter env x = pure x := by intro _; rfl) :
    wpAny (model prog w) A (eval (.ListComp elt [⟨.Name x px, iter, [], 0⟩] scope pos) env) Q E s := by
  rw [eval_ListComp]
  refine wpAny_comprehension_free (use := none) rfl hs hclos hkind hnames (wpAny_mono h (fun xv s₁ h₁ => wpAny_mono h₁ (fun it s₂ h₂ => ?_) fun _ _ e => e) fun _ _ e => e)
  obtain ⟨I, fp, n, P, St, S, news, rfl, W, hsz, hIo, hSt, hst, hfp, F, N, hIL, hI₀, off, hS, R⟩ := h₂
  refine block_U W hsz hIo hSt hcell hkind hx hst hfp F N hIL hI₀ off hS R ?_
  intro D C h tk m' ys news' F' N' o1 hn hC₀ hD₀ hCL hDL hCD offC fin
  refine ⟨m', hn, fun h'' hs'' => fin D h'' tk (F'.change hs'' hCL hC₀) (fun p hp => ?_) o1⟩
  refine ⟨hs''.extBut _ _ ?_ (N' p hp).1, (N' p hp).2⟩
  rcases List.mem_cons.mp hp with rfl | hp
  · exact Ne.symm hCD
  · exact offC p hp
theorem SrcW.ascii {elt : PySem.Expr} {x y : Str} {t : Tok} {scope : Scope} {cl : List (Str × Addr)} {Fin : Shared → List Value → Led → Prop} {news : Led} (hh : A.handled = none) (ha : y.cps.all (· < 128) = true) (hz : y.cps.size ≤ sizeLine)
    (F : Fr h₀ L s.heap m) (N : News h₀ L s.heap news)
    (R : ∀ h, CompRest prog w A h₀ L m env elt x scope cl { s with heap := h } (fun _ => True) (SignAt y) (Fin { s with heap := h }) y.cps.size 0 [] news) :
    wpAny (model prog w) A (pyIter (.str y t)) (SrcW prog w A h₀ L m env elt x scope cl Fin) E s := by
  refine wpAny_pyIter_ascii ha ?_
  refine ⟨_, [s.heap.objs.size], _, _, _, fun _ => True, news, rfl, Walks.strAscii hh _ y t, hz, fun i h st => ⟨_, st.choose_spec.1⟩, ?_, ⟨_, Heap.get?_push_size _ rfl, rfl, rfl⟩, ?_, F.push _, (fun p hp => ⟨Heap.get?_push_of_some _ (N p hp).1, (N p hp).2⟩), Nat.ne_of_lt F.ns.lt, next_is_new F, (fun p hp => Nat.ne_of_lt (Heap.lt_size (N p hp).1)), trivial, R _⟩
  · rintro i h h' o nw ⟨o', ho', r⟩ e e' _ _ _
    rw [e] at ho'; cases ho'
    exact ⟨o, e', r⟩
  · intro b hb
    rw [List.mem_singleton.mp hb]
    show s.heap.objs.size < (s.heap.push _).objs.size
    rw [Heap.size_push]; exact Nat.lt_succ_self _
theorem comp_pure {elt : PySem.Expr} {x : Str} {scope : Scope} {cl : List (Str × Addr)} {S : Led → Prop} {P : Nat → Value → Prop} {Fin : List Value → Led → Prop} {news : Led} (R : Nat → Value → Prop) (hS : S news)
    (el : ∀ i v C oC m₂ h tk led (E' : Value → Shared → Prop) (Q' : Value → Shared → Prop), P i v → NsObj oC m₂ → m₂ x = some v → Fr h₀ L h m → News h₀ L h led → (C, oC) ∈ led →
      (∀ y h' tk', R i y → Fr h₀ L h' m → News h₀ L h' led → Q' y { s with heap := h', toks := tk' }) →
      wpAny (model prog w) A (eval elt (compEnvC scope cl C env)) Q' E' { s with heap := h, toks := tk }) :
    ∀ (n i : Nat) (ys : List Value), (∀ zs : List Value, zs.length = n → (∀ j z, zs[j]? = some z → R (i + j) z) → Fin (ys ++ zs) news) → CompRest prog w A h₀ L m env elt x scope cl s S P Fin n i ys news
  | 0, i, ys, fin => by
    have := fin [] rfl (fun j z h => by simp at h)
    rw [List.append_nil] at this
    exact CompRest.zero this
  | n + 1, i, ys, fin => by
    refine CompRest.succ fun v I oI C oC D m₂ h tk E' hP hN hx F N off ne => ?_
    refine el i v C oC m₂ h tk _ E' _ hP hN hx F N (.tail _ (.head _)) fun y h' tk' hR F' N' => ?_
    refine CompEnd.intro (s₁ := { s with heap := h, toks := tk }) F' N' news (fun p hp => hp) off hS (comp_pure R hS el n (i + 1) (ys ++ [y]) fun zs hz hr => ?_)
    have := fin (y :: zs) (by rw [List.length_cons, hz]) (fun j z hj => ?_)
    · rw [List.append_assoc]; exact this
    · cases j with
      | zero => cases hj; exact hR
      | succ j =>
        have := hr j z hj
        rwa [show i + (j + 1) = i + 1 + j from by omega]
end

local macro_rules | `(tactic| walk_at "mine size") => `(tactic| ((try unfold noughts); (try simp only [List.size_toArray, List.length_cons, List.length_nil, List.length_replicate, Array.size_append, List.length_append]); (try simp only [List.size_toArray] at *); omega))
local macro_rules | `(tactic| walk_at "binaryOp Add bytes bytes") => `(tactic| (k_here; (with_reducible show wpAny _ _ (binaryOp Operator.Add (Value.bytes _ _) (Value.bytes _ _)) _ _ _); (refine KBy.add_bytes (by walk_at "mine size") ?_); intro _ _))
theorem noughts_mul {prog : Program} {w : World} {A : Around} {E : Value → Shared → Prop} {s : Shared} {n : Int} {t u : Tok} {Q : Value → Shared → Prop} (hlo : -1048576 ≤ n) (hn : n ≤ 1048576) (h : ∀ t' k, Q (.bytes (noughts n.toNat).toArray t') { s with toks := k }) :
    wpAny (model prog w) A (binaryOp .Mult (.bytes #[48] t) (.int n u)) Q E s := by
  refine bytes_mul_any (b := [48]) (by decide) hlo hn (by decide) fun t' k => ?_
  rw [List.flatten_replicate_singleton]
  exact h t' k
local macro_rules | `(tactic| walk_at "binaryOp Mult bytes int") => `(tactic| (k_here; k_dflt (refine noughts_mul (by walk_at "mine size") (by walk_at "mine size") ?_); intro _ _))
open LCg
theorem intsAre_mk : ∀ {zs : List Value} {ks : List Int}, zs.length = ks.length → (∀ j z, zs[j]? = some z → ∃ t, z = Value.int (ks.getD j 0) t) → IntsAre zs ks
  | [], [], _, _ => .nil
  | z :: zs, k :: ks, hl, h => by
    obtain ⟨t, rfl⟩ := h 0 z rfl
    exact .cons _ t (intsAre_mk (Nat.succ.inj hl) fun j z' hj => h (j + 1) z' hj)
  | [], _ :: _, hl, _ => nomatch hl
  | _ :: _, [], hl, _ => nomatch hl
theorem figures_ctr (w : World) (n : Nat) (hn : n ≤ 65535) (form : Int) (hf0 : 0 ≤ form) (hf : form < 5) (tn tf : Nat) (news : Led)
    (ha : (Str.ofString (toString (n : Int))).cps.all (· < 128) = true) (hz : (Str.ofString (toString (n : Int))).cps.size ≤ 5) (he : (Str.ofString (toString (n : Int))).cps.toList.map (·.toUInt8) = decOf n) :
    Ctr w 257 [.int n tn, .int form tf] news (fun r l => ∃ t, r = .bytes (figOut n form.toNat).toArray t ∧ l = news) 1 8 := by
  unfold Ctr
  k_fill
  intro dp un gd cn cs a ccd cl outer A₀ base h₀ L m s p loose mean mg mb Q E B F X N T hk hd hu hret
  refine wpAny_call ?_
  k_dflt cell_enter
  k_steps
  refine Stop.go ?_
  rename Fr _ _ _ _ => F1
  k_dflt (refine ListComp_W F1 (by with_unfolding_all rfl) (by decide) (by rfl) (by decide) (by rfl) ?_)
  k_steps
  refine Stop.go ?_
  rename Fr _ _ _ _ => F1
  rename News _ _ _ _ => N1
  refine SrcW.ascii rfl ha (by rw [sizeLine_eq]; omega) F1 N1 fun g => ?_
  refine comp_pure (fun i v => ∃ t, v = .int (((Str.ofString (toString (n : Int))).cps.toList.getD i 0 : Nat) : Int) t) trivial ?_ _ _ _ ?_
  · intro i v C oC m₂ h tk led E' Q' hP hN hx F2 N2 hC hQ'
    obtain ⟨c, u, hc, rfl⟩ := hP
    clear F1 N1
    k_steps
    refine hQ' _ _ _ ⟨tk, ?_⟩ F2 N2
    have e : (Str.ofString (toString (n : Int))).cps.toList.getD i 0 = c := by
      rw [List.getD_eq_getElem?_getD, Array.getElem?_toList, hc]; rfl
    rw [e]
  · intro zs hzl hzr
    rw [List.nil_append]
    unfold FinE
    intro D h tk F2 N2 o1
    clear F1 N1
    k_steps
    have hi : IntsAre zs ((Str.ofString (toString (n : Int))).cps.toList.map fun (c : Nat) => (c : Int)) := by
      refine intsAre_mk (by rw [hzl, List.length_map, Array.length_toList]) fun j z hj => ?_
      obtain ⟨t, rfl⟩ := hzr j z hj
      refine ⟨t, ?_⟩
      rw [Nat.zero_add, List.getD_eq_getElem?_getD, List.getD_eq_getElem?_getD, List.getElem?_map]
      cases (Str.ofString (toString (n : Int))).cps.toList[j]? <;> rfl
    have hr : KBa.In ((Str.ofString (toString (n : Int))).cps.toList.map fun (c : Nat) => (c : Int)) := by
      intro k hk
      obtain ⟨c, hc, rfl⟩ := List.mem_map.mp hk
      have := Array.all_eq_true_iff_forall_mem.mp ha c (Array.mem_toList_iff.mp hc)
      simp only [decide_eq_true_eq] at this
      omega
    have hb : byteArr ((Str.ofString (toString (n : Int))).cps.toList.map fun (c : Nat) => (c : Int)) = (decOf n).toArray := by
      unfold byteArr
      rw [List.map_map, ← he]
      congr 1
    k_dflt (refine KBa.make_K F2 N2 rfl (News.isList N2 (.head _)) hi hr (by rw [List.length_map, Array.length_toList]; omega) ?_)
    intro h3 t3 k3 F3 N3 _
    rw [hb]
    have hdl : (decOf n).length ≤ 5 := by rw [← he, List.length_map, Array.length_toList]; exact hz
    clear F2 N2
    have hfo : ∀ f, figOut n f = noughts ([0, 0, 1, 20 - (decOf n).length, 21 - (decOf n).length].getD f 0) ++ decOf n := fun _ => rfl
    generalize decOf n = dn at *
    have hds : dn.toArray.size ≤ 5 := by rw [List.size_toArray]; exact hdl
    have hcs : form = 0 ∨ form = 1 ∨ form = 2 ∨ form = 3 ∨ form = 4 := by omega
    rcases hcs with rfl | rfl | rfl | rfl | rfl
    all_goals k_steps
    all_goals rename Fr h₀ L _ _ => F9
    all_goals rename News h₀ L _ _ => N9
    all_goals refine hret _ _ _ _ F9 (news_sub N9 fun p hp => .tail _ (.tail _ hp)) ⟨_, congrArg (Value.bytes · _) ?_, rfl⟩
    all_goals rw [hfo, List.append_toArray]
    all_goals simp only [Int.reduceToNat, List.getD_cons_zero, List.getD_cons_succ]
    · rw [show ((20 : Int) - (dn.toArray.size : Int)).toNat = 20 - dn.length from by rw [List.size_toArray]; omega]
    · rw [show ((21 : Int) - (dn.toArray.size : Int)).toNat = 21 - dn.length from by rw [List.size_toArray]; omega]

noncomputable def smallNums : List Nat := [0, 1, 2, 3, 4, 5, 6, 7, 8, 9, 10, 11, 12, 13, 14, 15, 16, 17, 65535]
noncomputable def figOk (n : Nat) : Bool := (Str.ofString (toString (n : Int))).cps.all (· < 128) && decide ((Str.ofString (toString (n : Int))).cps.size ≤ 5) && ((Str.ofString (toString (n : Int))).cps.toList.map (·.toUInt8) == decOf n)
theorem figOk_all : smallNums.all figOk = true := by decide +kernel
theorem figures2 (w : World) (n : Nat) (hn : n ∈ smallNums) (form : Int) (hf0 : 0 ≤ form) (hf : form < 5) (tn tf : Nat) (news : Led) :
    Ctr w 257 [.int n tn, .int form tf] news (fun r l => ∃ t, r = .bytes (figOut n form.toNat).toArray t ∧ l = news) 1 8 := by
  have h := List.all_eq_true.mp figOk_all n hn
  unfold figOk at h
  simp only [Bool.and_eq_true, decide_eq_true_eq, beq_iff_eq] at h
  refine figures_ctr w n ?_ form hf0 hf tn tf news h.1.1 h.1.2 h.2
  have : smallNums.all (· ≤ 65535) = true := by decide
  exact of_decide_eq_true (List.all_eq_true.mp this n hn)

open LCg
local macro_rules | `(tactic| walk_at "call ref") => `(tactic| (k_here; k_dflt (refine' Ctr.useT (draw_U _ _ _ _ _ _ _ _ _ _ _ _ _ ?U ?hm ?hm1 ?hd0 ?hs0 ?hs1 ?hc0 ?hc1) ?k1 ?k2 ?k3 ?k4 ?k5 ?k6 ?k7 ?k8 ?_; walk_at "mine sides"; (case U => k_updF); (case hm => omega); (case hm1 => omega); (case hd0 => omega); (case hs0 => omega); (case hs1 => omega); (case hc0 => omega); (case hc1 => omega); intro h' tk' F'; refine draw_all ?_; intro dg' d' c' t' t1' t2' t3' n' b1' b2' b3' b4' b5' N'; (try dsimp only))))
local macro_rules | `(tactic| walk_at "mine enterC") => `(tactic| (k_dflt (refine' code_defC ?k1 ?k2 ?k3 ?k4 ?k5 ?kA ?kF ?kK ?k6 ?k7 ?k8 ?k9 ?kB ?kD ?_ ?c2 ?c3 ?c4; (case kA => exact rfl); (case kF => exact rfl); (case kK => assumption); (case k1 => k_asm); (case k2 => k_asm); (case k3 => k_asm); (case k4 => k_asm); (case k5 => k_asm); (case k6 => k_is); (case k7 => k_is); (case k8 => ktr_room); (case k9 => first | exact BindsTo.of_eq rfl | exact binds_K (by k_in) rfl (by k_is) rfl rfl rfl); (case kB => exact rfl); (case kD => decide +kernel); (case c2 => exact rfl); (case c3 => exact rfl); (case c4 => exact rfl); k_whole; intro g' L' h' tk' cells' FG' F' N' Y' B' X' T' l1; (try k_lt l1); k_cells Y'; (try simp only [List.cons_append, List.nil_append] at N'); (try dsimp only); (try k_lift B'); (try k_fold))))

local macro_rules | `(tactic| walk_at "pyIter ref") => `(tactic| refine Stop.mk ?_)
local macro_rules | `(tactic| walk_at "exec Assign cons ListComp") => `(tactic| ((fail_if_success (have g9 : GoOn := by assumption)); refine Stop.mk ?_))
section
variable {prog : Program} {w : World} {A : Around} {E : Value → Shared → Prop} {s : Shared} {h₀ : Heap} {L : Addr} {m : Str → Option Value} {env : Env}
theorem Assign_ListComp_W {elt iter : PySem.Expr} {x y : Str} {px py : Pos} {scope : Scope} {cl : List (Str × Addr)} {pos spos : Pos} {Q : Flow → Shared → Prop} (F₀ : Fr h₀ L s.heap m) (hLe : env.locals = L)
    (hsw : swapsWith (.ListComp elt [⟨.Name x px, iter, [], 0⟩] scope pos) (some (.Name y py)) spos.line env = pure true)
    (hclos : closureFor scope env = pure cl) (hcell : ∀ z ∈ scope.names, z.2 ≠ .cell) (hkind : scope.kind = .function)
    (hnames : ∀ z ∈ scope.names, z.2 = .local → scope.names.lookup z.1 = some .local) (hx : scope.names.lookup x = some .local)
    (hy : env.kindOf y = some .local) (hp : (env.scope.kind == .class || (env.scope.kind == .module && env.locals != env.globals)) = false)
    (h : wpAny (model prog w) A (eval iter env) (fun xv s₁ => wpAny (model prog w) A (pyIter xv) (SrcW prog w A h₀ L m env elt x scope cl (fun s₂ => FinA h₀ L m s₂ y Q)) E s₁) E s)
    (hs : ∀ x, foldedSetIterable iter env x = pure x := by intro _; rfl) :
    wpAny (model prog w) A (exec (.Assign [.Name y py] (.ListComp elt [⟨.Name x px, iter, [], 0⟩] scope pos) spos) env) Q E s := by
  subst hLe
  rw [exec_Assign_Name_used _ _ _ _ hsw]
  refine wpAny_bind (wpAny_standAt (wpAny_bind ?_))
  show wpAny _ A (do let _ ← comprehension (.ListComp elt [⟨.Name x px, iter, [], 0⟩] scope pos) scope env _ (newList []) false (eval iter env) (some (assign (.Name y py) env))) _ _ s
  refine wpAny_bind (wpAny_mono (wpAny_comprehension_free (use := some (assign (.Name y py) env)) (Q := fun _ s' => Q .next s') rfl hs hclos hkind hnames
    (wpAny_mono h (fun xv s₁ h₁ => wpAny_mono h₁ (fun it s₂ h₂ => ?_) fun _ _ e => e) fun _ _ e => e)) (fun _ s' hq => wpAny_pure (wpAny_pure hq)) fun _ _ e => e)
  obtain ⟨I, fp, n, P, St, S, news, rfl, W, hsz, hIo, hSt, hst, hfp, F, N, hIL, hI₀, off, hS, R⟩ := h₂
  refine block_U W hsz hIo hSt hcell hkind hx hst hfp F N hIL hI₀ off hS R ?_
  intro D C h' tk m' ys news' F' N' o1 hn hC₀ hD₀ hCL hDL hCD offC fin
  show wpAny _ A (assign (.Name y py) env (.ref D)) _ _ _
  refine wpAny_assign_Name (wpAny_storeName_local hy F'.ns (fun h₂ hn₂ hs₂ => ?_) hp)
  have hL₀ : h₀.get? env.locals = none := Heap.get?_none_of_le F'.above
  have F₂ : Fr h₀ env.locals h₂ (fun z => if z = y then some (.ref D) else m z) := ⟨hn₂, fun b o e => hs₂.extBut b o (fun q => by rw [q, hL₀] at e; cases e) (F'.keep b o e), F'.above⟩
  refine ⟨m', hn.sameBut hs₂ hCL, fun h'' hs'' => fin D h'' _ (F₂.change hs'' hCL hC₀) (fun p hp => ?_) o1⟩
  have z : h₂.get? p.1 = some p.2 := hs₂.extBut _ _ (N' p hp).2.1 (N' p hp).1
  refine ⟨hs''.extBut _ _ ?_ z, (N' p hp).2⟩
  rcases List.mem_cons.mp hp with rfl | hp
  · exact Ne.symm hCD
  · exact offC p hp
theorem SrcW.tuple {elt : PySem.Expr} {x : Str} {scope : Scope} {cl : List (Str × Addr)} {Fin : Shared → List Value → Led → Prop} {news : Led} {ax : Addr} {its : Array Value} {k : Nat} (hh : A.handled = none) (hz : its.size ≤ sizeLine)
    (F : Fr h₀ L s.heap m) (N : News h₀ L s.heap news) (hm : (ax, ({ cls := .type "tuple", data := .seq its k } : Obj)) ∈ news)
    (R : ∀ h, CompRest prog w A h₀ L m env elt x scope cl { s with heap := h } (fun l => (ax, ({ cls := .type "tuple", data := .seq its k } : Obj)) ∈ l) (fun i v => its[i]? = some v) (Fin { s with heap := h }) its.size 0 [] news) :
    wpAny (model prog w) A (pyIter (.ref ax)) (SrcW prog w A h₀ L m env elt x scope cl Fin) E s := by
  have ht : s.heap.IsTuple ax its := ⟨_, (N _ hm).1, rfl, _, rfl⟩
  have hlt : ax < s.heap.objs.size := Heap.lt_size (N _ hm).1
  refine wpAny_pyIter_tuple ht ?_
  refine ⟨_, _, _, _, _, fun l => (ax, ({ cls := .type "tuple", data := .seq its k } : Obj)) ∈ l, news, rfl, Walks.tuple hh s.heap.objs.size ax (Nat.ne_of_lt hlt) its, hz, fun i h st => ⟨_, st.1.choose_spec.1⟩, ?_, ⟨⟨_, Heap.get?_push_size _ rfl, rfl, rfl⟩, ⟨_, Heap.get?_push_of_some _ (N _ hm).1, rfl, _, rfl⟩⟩, ?_, F.push _, (fun p hp => ⟨Heap.get?_push_of_some _ (N p hp).1, (N p hp).2⟩), Nat.ne_of_lt F.ns.lt, next_is_new F, (fun p hp => Nat.ne_of_lt (Heap.lt_size (N p hp).1)), hm, R _⟩
  · rintro i h h' o nw ⟨⟨o', ho', r⟩, _⟩ e e' _ N' hm'
    rw [e] at ho'; cases ho'
    exact ⟨⟨o, e', r⟩, ⟨_, (N' _ hm').1, rfl, _, rfl⟩⟩
  · intro b hb
    show b < (s.heap.push _).objs.size
    rw [Heap.size_push]
    rcases List.mem_cons.mp hb with rfl | hb
    · exact Nat.lt_succ_self _
    · rw [List.mem_singleton.mp hb]; exact Nat.lt_succ_of_lt hlt
theorem comp_inv {elt : PySem.Expr} {x : Str} {scope : Scope} {cl : List (Str × Addr)} {S : Led → Prop} {P : Nat → Value → Prop} {Fin : List Value → Led → Prop} (J : Nat → List Value → Led → Prop) (hS : ∀ i ys l, J i ys l → S l)
    (el : ∀ i ys led v I oI C oC D m₂ h tk (E' : Value → Shared → Prop) (Q' : Value → Shared → Prop), J i ys led → P i v → NsObj oC m₂ → m₂ x = some v → Fr h₀ L h m → News h₀ L h ((I, oI) :: (C, oC) :: (D, lst ys) :: led) → Off3 I C D led → ((@Ne Nat I C) ∧ (@Ne Nat I D) ∧ (@Ne Nat C D)) →
      (∀ y h' tk' led', J (i + 1) (ys ++ [y]) led' → Fr h₀ L h' m → News h₀ L h' ((I, oI) :: (C, oC) :: (D, lst ys) :: led') → Off3 I C D led' → Q' y { s with heap := h', toks := tk' }) →
      wpAny (model prog w) A (eval elt (compEnvC scope cl C env)) Q' E' { s with heap := h, toks := tk }) :
    ∀ (n i : Nat) (ys : List Value) (led : Led), J i ys led → (∀ ys l, J (i + n) ys l → Fin ys l) → CompRest prog w A h₀ L m env elt x scope cl s S P Fin n i ys led
  | 0, i, ys, led, j, fin => CompRest.zero (fin ys led j)
  | n + 1, i, ys, led, j, fin => by
    refine CompRest.succ fun v I oI C oC D m₂ h tk E' hP hN hx F N off ne => ?_
    refine el i ys led v I oI C oC D m₂ h tk E' _ j hP hN hx F N off ne fun y h' tk' led' j' F' N' off' => ?_
    exact CompEnd.intro (s₁ := { s with heap := h, toks := tk }) F' N' led' (fun p hp => hp) off' (hS _ _ _ j') (comp_inv J hS el n (i + 1) (ys ++ [y]) led' j' fun ys' l' j'' => fin ys' l' (by rwa [show i + (n + 1) = i + 1 + n from by omega]))
end

noncomputable def DrawnTo (G : Obj → Led) (s₀ : Int) (B : Int) (k : Int) (i : Nat) (ys : List Value) (l : Led) : Prop :=
  ∃ d c t1 t2 t3 n, l = G (tapeO d s₀ c t1 t2 t3 n) ∧ 0 ≤ d ∧ 0 ≤ c ∧ c ≤ k + 2 * i ∧ ys.length = i ∧ ∀ y ∈ ys, ∃ e t, y = .int e t ∧ 0 ≤ e ∧ e < B
theorem upd_name {h₀ h : Heap} {L tp : Addr} {o : Obj} {led : Led} {g : Obj → Led} (N : News h₀ L h led) (U : UpdF tp o led g) : ∃ G, G = g ∧ G o = led ∧ News h₀ L h led := by
  obtain ⟨pre, post, e1, e2, _, _⟩ := U.split
  exact ⟨g, rfl, by rw [e2, e1], N⟩

theorem DrawnTo.snoc {G : Obj → Led} {sd B k : Int} {i : Nat} {ys : List Value} {d c e : Int} {t1 t2 t3 n t : Nat} (hl : ys.length = i) (hy : ∀ y ∈ ys, ∃ e t, y = Value.int e t ∧ 0 ≤ e ∧ e < B) (h1 : 0 ≤ d) (h2 : 0 ≤ c) (h3 : c ≤ k + 2 * (i + 1)) (h4 : 0 ≤ e) (h5 : e < B) :
    DrawnTo G sd B k (i + 1) (ys ++ [.int e t]) (G (tapeO d sd c t1 t2 t3 n)) := by
  refine ⟨_, _, _, _, _, _, rfl, h1, h2, by omega, by rw [List.length_append, hl]; rfl, fun y hm => ?_⟩
  rcases List.mem_append.mp hm with hm | hm
  · exact hy y hm
  · rw [List.mem_singleton.mp hm]; exact ⟨e, t, rfl, h4, h5⟩
theorem DrawnTo.two {G : Obj → Led} {sd B k : Int} {ys : List Value} {l : Led} (x : DrawnTo G sd B k (0 + 2) ys l) :
    ∃ e0 f0 e1 f1 d c t1 t2 t3 n, ys = [Value.int e0 f0, Value.int e1 f1] ∧ l = G (tapeO d sd c t1 t2 t3 n) ∧ 0 ≤ d ∧ 0 ≤ c ∧ c ≤ k + 4 ∧ 0 ≤ e0 ∧ e0 < B ∧ 0 ≤ e1 ∧ e1 < B := by
  obtain ⟨d, c, t1, t2, t3, n, rfl, h1, h2, h3, h4, h5⟩ := x
  match ys, h4 with
  | [a, b], _ =>
    obtain ⟨e0, f0, rfl, p0, q0⟩ := h5 a (.head _)
    obtain ⟨e1, f1, rfl, p1, q1⟩ := h5 b (.tail _ (.head _))
    exact ⟨_, _, _, _, _, _, _, _, _, _, rfl, rfl, h1, h2, by omega, p0, q0, p1, q1⟩

noncomputable def gapsB : List (List UInt8) := [[32], [10], [13, 10], [9, 32], [37, 99, 10], [32, 37, 49, 32, 48, 32, 111, 98, 106, 13], [0, 12], [], [47], [11]]
noncomputable def wordsB : List (List UInt8) := [[111, 98, 106], [111, 98, 106], [111, 98, 106], [111, 98, 106, 120], [111, 98], [79, 98, 106], [111, 98, 106, 49], [111, 98, 106, 101, 99, 116]]
noncomputable def behindB : List (List UInt8) := [[10], [60, 60], [91], [47, 65], [32, 53], [40], [37]]
noncomputable def menuOf (bs : List (List UInt8)) (ts : List Nat) : List Value := List.zipWith (fun b t => Value.bytes b.toArray t) bs ts
theorem menu_at : ∀ {bs : List (List UInt8)} {ts : List Nat} {j : Nat}, ts.length = bs.length → j < bs.length → ∃ t, (menuOf bs ts)[j]? = some (.bytes (bs.getD j []).toArray t)
  | b :: bs, t :: ts, 0, _, _ => ⟨t, rfl⟩
  | b :: bs, t :: ts, j + 1, hl, hj => menu_at (bs := bs) (ts := ts) (j := j) (Nat.succ.inj hl) (Nat.lt_of_succ_lt_succ hj)
  | _ :: _, [], _, hl, _ => nomatch hl
theorem item_menu {prog : Program} {w : World} {A : Around} {E : Value → Shared → Prop} {s : Shared} {K : Frag} {h₀ : Heap} {L a : Addr} {m : Str → Option Value} {n : Nat} {od : Option Addr} {sl : Array (Option Value)} {value slice : PySem.Expr} (bs : List (List UInt8)) (ts : List Nat) {i : Int} {u : Tok} {Q : Value → Shared → Prop}
    (X : K.In h₀) (F : Fr h₀ L s.heap m) (e : K.lookup a = some ⟨.type "tuple", od, .seq (menuOf bs ts).toArray n, sl⟩) (hl : ts.length = bs.length) (hz : bs.length ≤ 1000) (h0 : 0 ≤ i) (h1 : i < (bs.length : Int)) (h : ∀ t, Q (.bytes (bs.getD i.toNat []).toArray t) s)
    (hs : subscripted slice false (.ref a) (.int i u) = operate [.ref a, .int i u] (getItem (.ref a) (.int i u)) := by with_unfolding_all rfl) :
    wpAny (model prog w) A (subscriptTail value slice (.ref a) (.int i u)) Q E s := by
  obtain ⟨t, ht⟩ := menu_at (bs := bs) (ts := ts) (j := i.toNat) hl (by omega)
  have hlen : (menuOf bs ts).length = bs.length := by unfold menuOf; rw [List.length_zipWith, hl, Nat.min_self]
  refine item_tupleT (l := menuOf bs ts) (j := i.toNat) (tupK X F e) (by omega) (by omega) ?_ ht (h t) hs
  have hn : ¬ i < 0 := by omega
  rw [hlen]
  simp [seqIndex?, hn, h0, h1]
local macro_rules | `(tactic| walk_at "subscriptTail") => `(tactic| (k_here; (with_reducible show wpAny _ _ (subscriptTail _ _ (Value.ref 236) (Value.int _ _)) _ _ _); k_dflt (refine' item_menu gapsB [505, 506, 507, 508, 509, 510, 511, 512, 513, 514] ?k1 ?k2 ?k3 ?k4 ?k5 ?k6 ?k7 ?_; (case k1 => k_asm); (case k2 => k_asm); (case k3 => k_is); (case k4 => rfl); (case k5 => decide); (case k6 => assumption); (case k7 => assumption); intro tm')))
local macro_rules | `(tactic| walk_at "subscriptTail") => `(tactic| (k_here; (with_reducible show wpAny _ _ (subscriptTail _ _ (Value.ref 237) (Value.int _ _)) _ _ _); k_dflt (refine' item_menu wordsB [516, 517, 518, 519, 520, 521, 522, 523] ?k1 ?k2 ?k3 ?k4 ?k5 ?k6 ?k7 ?_; (case k1 => k_asm); (case k2 => k_asm); (case k3 => k_is); (case k4 => rfl); (case k5 => decide); (case k6 => assumption); (case k7 => assumption); intro tm')))
local macro_rules | `(tactic| walk_at "subscriptTail") => `(tactic| (k_here; (with_reducible show wpAny _ _ (subscriptTail _ _ (Value.ref 238) (Value.int _ _)) _ _ _); k_dflt (refine' item_menu behindB [525, 526, 527, 528, 529, 530, 531] ?k1 ?k2 ?k3 ?k4 ?k5 ?k6 ?k7 ?_; (case k1 => k_asm); (case k2 => k_asm); (case k3 => k_is); (case k4 => rfl); (case k5 => decide); (case k6 => assumption); (case k7 => assumption); intro tm')))

theorem gen_ok {dg : Int} (h : dg < 3) (h0 : 0 ≤ dg) : ([0, 1, 65535].getD dg.toNat 0 : Int).toNat ∈ smallNums ∧ 0 ≤ ([0, 1, 65535].getD dg.toNat 0 : Int) := by
  have : dg = 0 ∨ dg = 1 ∨ dg = 2 := by omega
  rcases this with rfl | rfl | rfl <;> exact ⟨by decide, by decide⟩
theorem figures3 (w : World) (z : Int) (hn : z.toNat ∈ smallNums ∧ 0 ≤ z) (form : Int) (hf0 : 0 ≤ form) (hf : form < 5) (tn tf : Nat) (news : Led) :
    Ctr w 257 [.int z tn, .int form tf] news (fun r l => ∃ t, r = .bytes (figOut z.toNat form.toNat).toArray t ∧ l = news) 1 8 := by
  have h := figures2 w z.toNat hn.1 form hf0 hf tn tf news
  rwa [Int.toNat_of_nonneg hn.2] at h
local macro_rules | `(tactic| walk_at "call ref") => `(tactic| (k_here; k_dflt (refine' Ctr.useT (figures3 _ _ ?hn _ ?hf0 ?hf _ _ _) ?k1 ?k2 ?k3 ?k4 ?k5 ?k6 ?k7 ?k8 ?_; walk_at "mine sides"; (case hn => assumption); (case hf0 => assumption); (case hf => assumption); intro h' tk' F'; refine ex1_all ?_; intro t' N'; (try dsimp only))))

theorem add_ok {b c : Array UInt8} {m n : Nat} (hb : b.size ≤ m) (hc : c.size ≤ n) (h : m + n ≤ 16777216) : b.size + c.size ≤ 16777216 := Nat.le_trans (Nat.add_le_add hb hc) h
theorem app_sz {b c : Array UInt8} {m n : Nat} (hb : b.size ≤ m) (hc : c.size ≤ n) : (b ++ c).size ≤ m + n := by rw [Array.size_append]; exact Nat.add_le_add hb hc
theorem dec_sz {n : Nat} (h : n ∈ smallNums) : (decOf n).length ≤ 5 := by
  have : smallNums.all (fun n => decide ((decOf n).length ≤ 5)) = true := by decide +kernel
  exact of_decide_eq_true (List.all_eq_true.mp this n h)
theorem fig_sz {z : Int} {f : Nat} (h : z.toNat ∈ smallNums ∧ 0 ≤ z) : (figOut z.toNat f).toArray.size ≤ 26 := by
  have h5 := dec_sz h.1
  rw [List.size_toArray]
  unfold figOut noughts
  rw [List.length_append, List.length_replicate]
  have : [0, 0, 1, 20 - (decOf z.toNat).length, 21 - (decOf z.toNat).length].getD f 0 ≤ 21 := by
    match f with
    | 0 => exact Nat.zero_le _
    | 1 => exact Nat.zero_le _
    | 2 => show 1 ≤ 21; decide
    | 3 => show 20 - _ ≤ 21; omega
    | 4 => show 21 - _ ≤ 21; omega
    | n + 5 => exact Nat.zero_le _
  omega
theorem getD_sz {bs : List (List UInt8)} {k : Nat} (h : bs.all (fun b => decide (b.length ≤ k)) = true) (j : Nat) : (bs.getD j []).toArray.size ≤ k := by
  rw [List.size_toArray, List.getD_eq_getElem?_getD]
  cases e : bs[j]? with
  | none => exact Nat.zero_le _
  | some b => exact of_decide_eq_true (List.all_eq_true.mp h b (List.mem_of_getElem? e))
theorem gap_sz {j : Nat} : (gapsB.getD j []).toArray.size ≤ 10 := getD_sz (by decide) j
theorem word_sz {j : Nat} : (wordsB.getD j []).toArray.size ≤ 6 := getD_sz (by decide) j
theorem beh_sz {j : Nat} : (behindB.getD j []).toArray.size ≤ 2 := getD_sz (by decide) j
local macro_rules | `(tactic| walk_at "mine sz") => `(tactic| first | exact fig_sz (by assumption) | exact gap_sz | exact word_sz | exact beh_sz | (refine' app_sz ?s1 ?s2; (case s1 => walk_at "mine sz"); (case s2 => walk_at "mine sz")))
local macro_rules | `(tactic| walk_at "binaryOp Add bytes bytes") => `(tactic| (k_here; (with_reducible show wpAny _ _ (binaryOp Operator.Add (Value.bytes _ _) (Value.bytes _ _)) _ _ _); (refine KBy.add_bytes (add_ok (by walk_at "mine sz") (by walk_at "mine sz") (by decide)) ?_); intro _ _))

structure HP where
  (gi f0 f1 g0 g1 wd bh : Nat)
noncomputable def genZ (gi : Nat) : Int := [0, 1, 65535].getD gi 0
noncomputable def HP.ok (q : HP) : Prop := q.gi < 3 ∧ q.f0 < 5 ∧ q.f1 < 5 ∧ q.g0 < 10 ∧ q.g1 < 10 ∧ q.wd < 8 ∧ q.bh < 7
noncomputable def headOcts (num : Nat) (q : HP) : List UInt8 :=
  figOut num q.f0 ++ gapsB.getD q.g0 [] ++ figOut (genZ q.gi).toNat q.f1 ++ gapsB.getD q.g1 [] ++ wordsB.getD q.wd [] ++ behindB.getD q.bh []
noncomputable def parted (q : HP) : Bool := decide (q.g0 < 7) && decide (q.g1 < 7)
noncomputable def headIs (q : HP) : Bool := parted q && (wordsB.getD q.wd [] == objW) && (decide (q.f0 < 4) && decide (q.f1 < 4))
noncomputable def HeadOut (tp : Nat) (sd c : Int) (num : Nat) (news : Led) (r : Value) (l : Led) : Prop :=
  ∃ (q : HP) (d' c' : Int) (t1 t2 t3 n a t : Nat), q.ok ∧ 0 ≤ d' ∧ 0 ≤ c' ∧ c' ≤ c + 20 ∧ r = .ref a ∧ tp < a ∧ (∀ p ∈ news, @LT.lt Nat _ p.1 a) ∧
    ((headIs q = true ∧ ∃ hd tn tg : Nat, tp < hd ∧ hd < a ∧ (∀ p ∈ news, @LT.lt Nat _ p.1 hd) ∧
        l = (a, tupO [.bytes (headOcts num q).toArray t, .ref hd, .bool (parted q)]) :: (hd, tupO [.int num tn, .int (genZ q.gi) tg]) :: (tp, tapeO d' sd c' t1 t2 t3 n) :: news) ∨
     (headIs q = false ∧ l = (a, tupO [.bytes (headOcts num q).toArray t, .none, .bool (parted q)]) :: (tp, tapeO d' sd c' t1 t2 t3 n) :: news))
theorem max_dec {M e0 e1 : Int} (h0 : 0 ≤ e0) (h1 : 0 ≤ e1) (m1 : M = e0 ∨ M = e1) (b1 : e0 ≤ M ∧ e1 ≤ M) (B : Nat) {Bi : Int} (hB : Bi = (B : Int)) : decide (M < Bi) = (decide (e0.toNat < B) && decide (e1.toNat < B)) := by
  subst hB
  rw [← Bool.decide_and]
  exact decide_eq_decide.mpr ⟨fun h => by omega, fun h => by omega⟩
theorem octs_eq (num : Nat) (f0 f1 e0 e1 dg wd bh : Int) :
    (figOut ((num : Int)).toNat ([f0, f1].getD (Int.toNat 0) 0).toNat).toArray ++ (gapsB.getD ([e0, e1].getD (Int.toNat 0) 0).toNat []).toArray ++ (figOut ([0, 1, 65535].getD dg.toNat 0 : Int).toNat ([f0, f1].getD (Int.toNat 1) 0).toNat).toArray ++
      (gapsB.getD ([e0, e1].getD (Int.toNat 1) 0).toNat []).toArray ++ (wordsB.getD wd.toNat []).toArray ++ (behindB.getD bh.toNat []).toArray = (headOcts num ⟨dg.toNat, f0.toNat, f1.toNat, e0.toNat, e1.toNat, wd.toNat, bh.toNat⟩).toArray := by
  simp only [List.append_toArray]
  rfl

local macro_rules | `(tactic| walk_at "mine mem") => `(tactic| first | exact List.Mem.head _ | (refine List.mem_cons_of_mem _ ?_; walk_at "mine mem"))
local macro_rules | `(tactic| walk_at "mine tail") => `(tactic| (intro p9 hp9; repeat (first | exact hp9 | refine List.mem_cons_of_mem _ ?_)))

theorem head_ctr (w : World) (tp : Nat) (d sd c : Int) (t1 t2 t3 n : Nat) (num : Nat) (tm : Nat) (news : Led) (hnum : num ∈ smallNums) (hd0 : 0 ≤ d) (hs0 : 0 ≤ sd) (hs1 : sd < 1000000007) (hc0 : 0 ≤ c) (hc1 : c < 900000) (h2 : ∀ p ∈ news, p.1 ≠ tp) :
    Ctr w 262 [.ref tp, .int num tm] ((tp, tapeO d sd c t1 t2 t3 n) :: news) (HeadOut tp sd c num news) 3 32 := by
  unfold Ctr
  k_fill
  intro dp un gd cn cs a ccd cl outer A₀ base h₀ L m s p loose mean mg mb Q E B F X N T hk hd hu hret
  refine wpAny_call ?_
  walk_at "mine enterC"
  k_steps
  refine Stop.go ?_
  rename Fr _ _ _ _ => F1
  k_dflt (refine ListComp_W F1 (by with_unfolding_all rfl) (by decide) (by rfl) (by decide) (by rfl) ?_)
  k_steps
  refine Stop.go ?_
  rename Fr _ _ _ _ => F1
  rename News _ _ _ _ => N1
  obtain ⟨G, hG, hGo, N1⟩ := upd_name (tp := tp) (o := tapeO _ sd _ _ _ _ _) N1 (by k_updF)
  refine SrcW.tuple rfl (Nat.le_of_ble_eq_true rfl) F1 N1 (.head _) fun g => ?_
  refine comp_inv (DrawnTo G sd 5 (c + 1)) ?_ ?_ _ _ _ _ ⟨_, _, _, _, _, _, hGo.symm, by omega, by omega, by omega, rfl, fun _ h => nomatch h⟩ ?_
  · rintro i ys l ⟨d1, c1, u1, u2, u3, u4, rfl, _⟩
    subst hG
    exact .head _
  · rintro i ys led v I oI C oC D m₂ h tk E' Q' ⟨d1, c1, u1, u2, u3, u4, rfl, g1, g2, g3, g4, g5⟩ hP hN hx F2 N2 off ne hQ'
    clear F1 N1
    subst hG
    dsimp only at N2
    have off0 := off
    simp only [Off3] at off
    have hi : i < 2 := (Array.getElem?_eq_some_iff.mp hP).1
    k_steps
    · rename News _ _ _ _ => N9
      rename Fr _ _ _ _ => F9
      exact hQ' _ _ _ _ (DrawnTo.snoc (G := fun o' => _) g4 g5 (by assumption) (by assumption) (by omega) (by assumption) (by assumption)) F9 N9 off0
    · rename News _ _ _ _ => N9
      rename Fr _ _ _ _ => F9
      exact hQ' _ _ _ _ (DrawnTo.snoc (G := fun o' => _) g4 g5 (by assumption) (by assumption) (by omega) (by decide) (by decide)) F9 N9 off0
  rintro ys l hJ
  obtain ⟨f0, tf0, f1, tf1, d2, c2, u1, u2, u3, u4, rfl, rfl, g1, g2, g3, p0, q0, p1, q1⟩ := hJ.two
  subst hG
  intro D h tk F2 N2 o1
  clear F1 N1 hGo hJ
  dsimp only [lst] at N2
  simp only [Off1] at o1
  k_steps
  refine Stop.go ?_
  skip
  rename Fr _ _ _ _ => F1
  rename News _ _ _ _ => N1
  k_dflt (refine Assign_ListComp_W F1 rfl (by with_unfolding_all rfl) (by with_unfolding_all rfl) (by decide) (by rfl) (by decide) (by rfl) (by rfl) (by rfl) ?_)
  k_steps
  refine Stop.go ?_
  try clear F1 N1
  rename Fr _ _ _ _ => F1
  rename News _ _ _ _ => N1
  obtain ⟨G, hG, hGo, N1⟩ := upd_name (tp := tp) (o := tapeO _ sd _ _ _ _ _) N1 (by k_updF)
  refine SrcW.tuple rfl (Nat.le_of_ble_eq_true rfl) F1 N1 (.head _) fun g => ?_
  refine comp_inv (DrawnTo G sd 10 (c + 5)) ?_ ?_ _ _ _ _ ⟨_, _, _, _, _, _, hGo.symm, by omega, by omega, by omega, rfl, fun _ h => nomatch h⟩ ?_
  · rintro i ys l ⟨d1, c1, u1, u2, u3, u4, rfl, _⟩
    subst hG
    exact .head _
  · rintro i ys led v I oI C oC D m₂ h tk E' Q' ⟨d1, c1, u1, u2, u3, u4, rfl, g1, g2, g3, g4, g5⟩ hP hN hx F2 N2 off ne hQ'
    clear F1 N1
    subst hG
    dsimp only at N2
    have off0 := off
    simp only [Off3] at off
    have hi : i < 2 := (Array.getElem?_eq_some_iff.mp hP).1
    k_steps
    rename News _ _ _ _ => N9
    rename Fr _ _ _ _ => F9
    exact hQ' _ _ _ _ (DrawnTo.snoc (G := fun o' => _) g4 g5 (by assumption) (by assumption) (by omega) (by assumption) (by assumption)) F9 N9 off0
  rintro ys l hJ
  obtain ⟨e0, te0, e1, te1, d3, c3, v1, v2, v3, v4, rfl, rfl, k1, k2, k3, p2, q2, p3, q3⟩ := hJ.two
  subst hG
  intro D2 h tk F2 N2 o1
  clear F1 N1 hGo hJ
  dsimp only [lst] at N2
  simp only [Off1] at o1
  rename _ < (3 : Int) => hdg
  have hgen := gen_ok hdg (by assumption)
  have hnumz : ((num : Int)).toNat ∈ smallNums ∧ 0 ≤ (num : Int) := ⟨hnum, Int.natCast_nonneg _⟩
  k_steps
  · rename Fr h₀ L _ _ => F9
    rename News h₀ L _ _ => N9
    rename _ = e0 ∨ _ => m1
    rename e0 ≤ _ ∧ _ => b1
    rename _ = f0 ∨ _ => m2
    rename f0 ≤ _ ∧ _ => b2
    rename _ < (7 : Int) => w7
    rename _ < (4 : Int) => w4
    rename (_ == _) = true => wo
    rename _ ∧ _ => l9
    have A9 := l9
    repeat (replace A9 := A9.2)
    replace A9 := ktn_ltOf A9
    rw [octs_eq, max_dec (Bi := 7) p2 p3 m1 b1 7 rfl] at N9
    refine hret _ _ _ _ F9 (news_sub (l' := (_, tupO [_, .ref _, _]) :: (_, tupO [.int _ _, .int _ _]) :: (tp, tapeO _ sd _ _ _ _ _) :: news) N9 (List.forall_mem_cons.mpr ⟨by walk_at "mine mem", List.forall_mem_cons.mpr ⟨by walk_at "mine mem", List.forall_mem_cons.mpr ⟨by walk_at "mine mem", by walk_at "mine tail"⟩⟩⟩)) ?_
    have hlt := l9.1
    have hlt' : tp < _ := l9.2.2.2.2.2.2.2.2.2.1
    clear l9
    rename _ ∧ _ => l8
    have A8 := l8
    repeat (replace A8 := A8.2)
    replace A8 := ktn_ltOf A8
    refine ⟨_, _, _, _, _, _, _, _, _, ?_, ?_, ?_, ?_, rfl, ?_, A9, .inl ⟨?_, _, _, _, ?_, hlt, A8, rfl⟩⟩
    · unfold HP.ok; dsimp only; omega
    · assumption
    · assumption
    · omega
    · exact hlt'
    · unfold headIs parted
      dsimp only
      rw [← max_dec (Bi := 7) p2 p3 m1 b1 7 rfl, ← max_dec (Bi := 4) p0 p1 m2 b2 4 rfl, decide_eq_true w7, decide_eq_true w4, show (_ == objW) = true from wo]
      rfl
    · omega
  · rename Fr h₀ L _ _ => F9
    rename News h₀ L _ _ => N9
    rename _ = e0 ∨ _ => m1
    rename e0 ≤ _ ∧ _ => b1
    rename _ = f0 ∨ _ => m2
    rename f0 ≤ _ ∧ _ => b2
    rename ¬ _ < (4 : Int) => w4
    rename _ ∧ _ => l9
    have A9 := l9
    repeat (replace A9 := A9.2)
    replace A9 := ktn_ltOf A9
    rw [octs_eq, max_dec (Bi := 7) p2 p3 m1 b1 7 rfl] at N9
    refine hret _ _ _ _ F9 (news_sub (l' := (_, tupO [_, .none, _]) :: (tp, tapeO _ sd _ _ _ _ _) :: news) N9 (List.forall_mem_cons.mpr ⟨by walk_at "mine mem", List.forall_mem_cons.mpr ⟨by walk_at "mine mem", by walk_at "mine tail"⟩⟩)) ?_
    refine ⟨_, _, _, _, _, _, _, _, _, ?_, ?_, ?_, ?_, rfl, ?_, A9, .inr ⟨?_, rfl⟩⟩
    · unfold HP.ok; dsimp only; omega
    · assumption
    · assumption
    · omega
    · omega
    · unfold headIs parted
      dsimp only
      rw [← max_dec (Bi := 4) p0 p1 m2 b2 4 rfl, decide_eq_false w4, Bool.and_false]
  · rename Fr h₀ L _ _ => F9
    rename News h₀ L _ _ => N9
    rename _ = e0 ∨ _ => m1
    rename e0 ≤ _ ∧ _ => b1
    rename (_ == _) = false => wo
    rename _ ∧ _ => l9
    have A9 := l9
    repeat (replace A9 := A9.2)
    replace A9 := ktn_ltOf A9
    rw [octs_eq, max_dec (Bi := 7) p2 p3 m1 b1 7 rfl] at N9
    refine hret _ _ _ _ F9 (news_sub (l' := (_, tupO [_, .none, _]) :: (tp, tapeO _ sd _ _ _ _ _) :: news) N9 (List.forall_mem_cons.mpr ⟨by walk_at "mine mem", List.forall_mem_cons.mpr ⟨by walk_at "mine mem", by walk_at "mine tail"⟩⟩)) ?_
    refine ⟨_, _, _, _, _, _, _, _, _, ?_, ?_, ?_, ?_, rfl, ?_, A9, .inr ⟨?_, rfl⟩⟩
    · unfold HP.ok; dsimp only; omega
    · assumption
    · assumption
    · omega
    · omega
    · unfold headIs parted
      dsimp only
      rw [show (_ == objW) = false from wo, Bool.and_false, Bool.false_and]
  · rename Fr h₀ L _ _ => F9
    rename News h₀ L _ _ => N9
    rename _ = e0 ∨ _ => m1
    rename e0 ≤ _ ∧ _ => b1
    rename ¬ _ < (7 : Int) => w7
    rename _ ∧ _ => l9
    have A9 := l9
    repeat (replace A9 := A9.2)
    replace A9 := ktn_ltOf A9
    rw [octs_eq, max_dec (Bi := 7) p2 p3 m1 b1 7 rfl] at N9
    refine hret _ _ _ _ F9 (news_sub (l' := (_, tupO [_, .none, _]) :: (tp, tapeO _ sd _ _ _ _ _) :: news) N9 (List.forall_mem_cons.mpr ⟨by walk_at "mine mem", List.forall_mem_cons.mpr ⟨by walk_at "mine mem", by walk_at "mine tail"⟩⟩)) ?_
    refine ⟨_, _, _, _, _, _, _, _, _, ?_, ?_, ?_, ?_, rfl, ?_, A9, .inr ⟨?_, rfl⟩⟩
    · unfold HP.ok; dsimp only; omega
    · assumption
    · assumption
    · omega
    · omega
    · unfold headIs parted
      dsimp only
      rw [← max_dec (Bi := 7) p2 p3 m1 b1 7 rfl, decide_eq_false w7, Bool.false_and, Bool.false_and]
noncomputable def CtrP (w : World) (Pre : Heap → Prop) (f : Addr) (vs : List Value) (news : Led) (Out : Value → Led → Prop) (d u : Nat) : Prop :=
  ∀ (dp un : Nat) (gd : Option (List Code)) (cn : Str) (cs : Scope) (a : Addr) (ccd : Value) (cl : List (Str × Addr)) (outer : List Env) (A₀ : Around) (base h₀ : Heap) (L : Addr) (m : Str → Option Value) (s : Shared)
    (p : Program) (loose : List Str) (mean : ExcName → Option Value) (mg mb : Str → Option Value) (Q E : Value → Shared → Prop),
    Below A₀ base outer h₀ → Fr h₀ L s.heap m → (Mine.hd.heap_1 w.params).In h₀ → News h₀ L s.heap news → Top p loose mean mg mb h₀ → cs.kind = .function → dp + d < recursionLimit → un + u < cLine → Pre h₀ →
    (∀ r news' h' tk', Fr h₀ L h' m → News h₀ L h' news' → Out r news' → Q r { s with heap := h', toks := tk' }) →
    wpAny (model PySem.Challenge.rw_qd0124_01.row.prog w) (ktrTop dp un gd cn cs L a ccd cl outer) (call (.ref f) vs) Q E s
theorem CtrP.use {w : World} {Pre : Heap → Prop} {f : Addr} {vs : List Value} {news : Led} {Out : Value → Led → Prop} {d u : Nat} {dp un : Nat} {gd : Option (List Code)} {cn : Str} {cs : Scope} {a : Addr} {ccd : Value} {cl : List (Str × Addr)} {outer : List Env} {A₀ : Around} {base h₀ : Heap} {L : Addr} {m : Str → Option Value} {s : Shared}
    {p : Program} {loose : List Str} {mean : ExcName → Option Value} {mg mb : Str → Option Value} {Q E : Value → Shared → Prop} (C : CtrP w Pre f vs news Out d u) 
    (B : Below A₀ base outer h₀) (F : Fr h₀ L s.heap m) (X : (Mine.hd.heap_1 w.params).In h₀) (N : News h₀ L s.heap news) (T : Top p loose mean mg mb h₀) (hk : cs.kind = .function) (hd : dp + d < recursionLimit) (hu : un + u < cLine) (hp : Pre h₀)
    (ret : ∀ r news' h' tk', Fr h₀ L h' m → News h₀ L h' news' → Out r news' → Q r { s with heap := h', toks := tk' }) :
    wpAny (model PySem.Challenge.rw_qd0124_01.row.prog w) (ktrTop dp un gd cn cs L a ccd cl outer) (call (.ref f) vs) Q E s :=
  C dp un gd cn cs a ccd cl outer A₀ base h₀ L m s p loose mean mg mb Q E B F X N T hk hd hu hp ret
theorem CtrP.useT {w : World} {Pre : Heap → Prop} {f : Addr} {vs : List Value} {news : Led} {Out : Value → Led → Prop} {d u : Nat} {dp un : Nat} {gd : Option (List Code)} {cn : Str} {cs : Scope} {a : Addr} {ccd : Value} {cl : List (Str × Addr)} {outer : List Env} {A₀ : Around} {base h₀ : Heap} {L : Addr} {m : Str → Option Value} {s : Shared}
    {p : Program} {loose : List Str} {mean : ExcName → Option Value} {mg mb : Str → Option Value} {Q E : Value → Shared → Prop} (C : CtrP w Pre f vs news Out d u) 
    (B : Below A₀ base outer h₀) (F : Fr h₀ L s.heap m) (X : (Mine.hd.heap_1 w.params).In h₀) (N : News h₀ L s.heap news) (T : Top p loose mean mg mb h₀) (hk : cs.kind = .function) (hd : dp + d < recursionLimit) (hu : un + u < cLine) (hp : Pre h₀)
    (ret : ∀ h' tk', Fr h₀ L h' m → ∀ r news', Out r news' → News h₀ L h' news' → Q r { s with heap := h', toks := tk' }) :
    wpAny (model PySem.Challenge.rw_qd0124_01.row.prog w) (ktrTop dp un gd cn cs L a ccd cl outer) (call (.ref f) vs) Q E s :=
  C dp un gd cn cs a ccd cl outer A₀ base h₀ L m s p loose mean mg mb Q E B F X N T hk hd hu hp fun r n h tk F N O => ret h tk F r n O N
noncomputable def TapeOut (news : Led) (r : Value) (l : Led) : Prop :=
  ∃ (a : Nat) (d sd : Int) (t1 t2 t3 n : Nat), r = .ref a ∧ l = (a, tapeO d sd 0 t1 t2 t3 n) :: news ∧ 0 ≤ d ∧ 0 ≤ sd ∧ sd < 1000000007 ∧ ∀ p ∈ news, @LT.lt Nat _ p.1 a
theorem tape_ctr (w : World) (l : Addr) (vs : List Value) (ns : List Int) (hi : IntsAre vs ns) (hz : ns.length ≤ 63) (news : Led) :
    CtrP w (fun h => h.IsList l vs.toArray) 245 [.ref l] news (TapeOut news) 2 16 := by
  unfold CtrP
  k_fill
  intro dp un gd cn cs a ccd cl outer A₀ base h₀ L m s p loose mean mg mb Q E B F X N T hk hd hu hl hret
  refine wpAny_call ?_
  k_dflt cell_enter
  have hl2 := Heap.IsList.at hl (by rename Fr h₀ L _ _ => F0; exact F0.keep l)
  k_steps
  refine Stop.go ?_
  rename Fr _ _ _ _ => F1
  with_unfolding_all refine' For_invVF F1 ?k1 ?k2 ?_
  case k1 => exact rfl
  case k2 => exact rfl
  k_steps
  refine Stop.go ?_
  rename Fr _ _ _ _ => F1
  rename News _ _ _ _ => N1
  rename IntsAre _ _ => hi2
  refine iter_invNL (fun i m₁ nx => ∃ d sd td ts, 0 ≤ d ∧ 0 ≤ sd ∧ sd < 1000000007 ∧ Pins [(Str.ofString "digits", .int d td), (Str.ofString "seed", .int sd ts)] m₁ ∧ ∀ p ∈ news, p ∈ nx) rfl (.head _) hi2 F1 N1 ?_ ?_ ?_
  · exact ⟨0, 0, _, _, by decide, by decide, by decide, ⟨rfl, rfl, trivial⟩, fun p hp => .tail _ (.tail _ hp)⟩
  · clear F1 N1
    rintro i n t m₃ nx h₃ tk₃ own hn hadr hoff hmem ⟨d, sd, td, ts, g1, g2, g3, hm₃, hsub⟩ F3 N3
    rw [← pinM_eq hm₃] at F3
    dsimp only [pinM] at F3
    k_steps
    rename News _ _ _ _ => N5
    rename Fr _ _ _ _ => F5
    refine InvEndN.intro F5 N5 ⟨hmem, _, _, _, _, ?_, ?_, ?_, ⟨rfl, rfl, trivial⟩, hsub⟩ hadr (fun p hp => List.mem_append_left _ hp) (fun p hp => List.mem_append_right _ hp)
    · first | omega | (split <;> omega)
    · exact Int.fmod_nonneg_of_pos _ (by decide)
    · exact Int.fmod_lt_of_pos _ (by decide)
  · clear F1 N1
    rintro m₃ nx h₃ tk₃ hmem ⟨d, sd, td, ts, g1, g2, g3, hm₃, hsub⟩ F3 N3
    rw [← pinM_eq hm₃] at F3
    dsimp only [pinM] at F3
    replace N3 := news_sub N3 hsub
    k_steps
    rename ∀ p ∈ news, p.1 < _ => l9
    rename Fr h₀ L _ _ => F9
    rename News h₀ L _ _ => N9
    exact hret _ _ _ _ F9 N9 ⟨_, _, _, _, _, _, _, rfl, rfl, g1, g2, g3, l9⟩
theorem tape_all {P : Value → Led → Prop} {news : Led} (k : ∀ (a : Nat) (d sd : Int) (t1 t2 t3 n : Nat), 0 ≤ d → 0 ≤ sd → sd < 1000000007 → (∀ p ∈ news, @LT.lt Nat _ p.1 a) → P (.ref a) ((a, tapeO d sd 0 t1 t2 t3 n) :: news)) :
    ∀ r n, TapeOut news r n → P r n := by
  rintro _ _ ⟨a, d, sd, t1, t2, t3, n, rfl, rfl, b1, b2, b3, b4⟩
  exact k a d sd t1 t2 t3 n b1 b2 b3 b4
section
variable {prog : Program} {w : World} {A : Around} {E : Value → Shared → Prop} {s : Shared} {env : Env} {h₀ : Heap} {x : Str} {px : Pos} {body : List Stmt} {Q : Flow → Shared → Prop}
noncomputable def GrowPost (h₀ : Heap) (L : Addr) (J : (Str → Option Value) → Led → Prop) (own : Led) (s₁ : Shared) (f : Flow) (s₂ : Shared) : Prop :=
  f = .next ∧ ∃ h' tk m' news' nx, s₂ = { s₁ with heap := h', toks := tk } ∧ Fr h₀ L h' m' ∧ News h₀ L h' news' ∧ (∀ p ∈ nx, p ∈ news') ∧ (∀ p ∈ own, p ∈ news') ∧ TbOff own nx ∧ J m' nx
theorem loop_grow {I : Addr} {fp : List Addr} {n : Nat} {P : Nat → Value → Prop} {St : Nat → Heap → Prop} {m₀ : Str → Option Value} {news : Led} (J : Nat → (Str → Option Value) → Led → Prop)
    (W : Walks prog w A I fp [I] n P St) (hst1 : ∀ i h, St i h → ∀ b ∈ fp, ∃ o, h.get? b = some o) (hLf : env.locals ∉ fp) (hI : h₀.get? I = none) (hnw : ∀ p ∈ news, p.1 ∉ fp) (hst : St 0 s.heap) (F : Fr h₀ env.locals s.heap m₀) (N : News h₀ env.locals s.heap news) (hj : J 0 m₀ news)
    (turn : ∀ i v m₁ nx own (s₁ : Shared), i < n → P i v → J i m₁ nx → TbOff own nx → Fr h₀ env.locals s₁.heap m₁ → News h₀ env.locals s₁.heap (nx ++ own) →
      wpAny (model prog w) A (assign (.Name x px) env v) (fun _ s₃ => wpAny (model prog w) A (execs body env) (GrowPost h₀ env.locals (J (i + 1)) own s₁) E s₃) E s₁)
    (done : ∀ m₁ nx h tk, J n m₁ nx → Fr h₀ env.locals h m₁ → News h₀ env.locals h nx → Q .next { s with heap := h, toks := tk }) :
    LoopAtT prog w A h₀ env (.Name x px) body Q E (.ref I) s := by
  refine ⟨I, fp, [I], n, P, St, m₀, news, fun i m nx => J i m nx ∧ ∀ p ∈ nx, p.1 ∉ fp, rfl, W, hLf, ?_, ?_, hst, F, N, ?_, ⟨hj, hnw⟩, ?_, ?_⟩
  · intro b hb; rw [List.mem_singleton.mp hb]; exact hI
  · intro p hp hb; exact hnw p hp (W.sub _ hb)
  · intro i s' v Q' _ hq; exact wpAny_pure hq
  · rintro i v m₁ nx s₁ own hi hP ⟨hJ, hoff⟩ _ hown _ hmem hS F₁ N₁
    have N₂ : News h₀ env.locals s₁.heap (nx ++ own) := fun p hp => N₁ p ((List.mem_append.mp hp).elim (fun h => List.mem_append.mpr (.inr h)) fun h => List.mem_append.mpr (.inl h))
    have hsep : TbOff own nx := fun p hp q hq e => hoff q hq (e ▸ hown p hp)
    refine wpAny_mono (turn i v m₁ nx own s₁ hi hP hJ hsep F₁ N₂) (fun _ s₃ h₃ => wpAny_mono h₃ (fun f s₂ p => ?_) fun _ _ e => e) fun _ _ e => e
    obtain ⟨hf, h', tk, m', news', nx', e, F', N', hn, ho, ha, hm⟩ := p
    have hfree : ∀ p ∈ nx', p.1 ∉ fp := by
      intro p hp hb
      cases hn0 : h₀.get? p.1 with
      | some o => have := (N' p (hn p hp)).2.2; rw [hn0] at this; cases this
      | none =>
        obtain ⟨o, hox⟩ := hst1 _ _ hS p.1 hb
        exact ha _ (hmem p.1 hb hn0 o hox) p hp rfl
    exact ⟨hf, h', tk, m', nx', e, F', fun p hp => N' p ((List.mem_append.mp hp).elim (ho p) (hn p)), fun p hp hb => hfree p hp (W.sub _ hb), hm, hfree⟩
  · rintro h' tk m' nx F' N' _ ⟨hJ, _⟩
    exact done m' nx h' tk hJ F' N'
theorem iter_list_grow {l : Addr} {vs : List Value} {nn : Nat} {m₀ : Str → Option Value} {led news : Led} (J : Nat → (Str → Option Value) → Led → Prop)
    (hh : A.handled = none) (F : Fr h₀ env.locals s.heap m₀) (N : News h₀ env.locals s.heap led) (hl : (l, listOf vs.toArray nn) ∈ led) (hs : ∀ p ∈ news, p ∈ led) (hnl : ∀ p ∈ news, p.1 ≠ l) (hj : J 0 m₀ news)
    (turn : ∀ i v m₁ nx own (s₁ : Shared), vs[i]? = some v → J i m₁ nx → TbOff own nx → Fr h₀ env.locals s₁.heap m₁ → News h₀ env.locals s₁.heap (nx ++ own) →
      wpAny (model prog w) A (assign (.Name x px) env v) (fun _ s₃ => wpAny (model prog w) A (execs body env) (GrowPost h₀ env.locals (J (i + 1)) own s₁) E s₃) E s₁)
    (done : ∀ m₁ nx h tk, J vs.length m₁ nx → Fr h₀ env.locals h m₁ → News h₀ env.locals h nx → Q .next { s with heap := h, toks := tk }) :
    wpAny (model prog w) A (pyIter (.ref l)) (fun it s₂ => LoopAtT prog w A h₀ env (.Name x px) body Q E it s₂) E s := by
  have hol := (N _ hl).1
  have hls : s.heap.IsList l vs.toArray := ⟨_, hol, rfl, nn, rfl⟩
  have hne : l ≠ s.heap.objs.size := Nat.ne_of_lt (Heap.lt_size hol)
  refine wpAny_pyIter_list hls ?_
  have W := Walks.list (prog := prog) (w := w) hh s.heap.objs.size l hne vs.toArray
  have hlen : vs.toArray.size = vs.length := by simp
  rw [hlen] at W
  refine loop_grow J W ?_ ?_ (next_is_new F) ?_ ⟨⟨_, Heap.get?_push_size _ rfl, rfl, rfl⟩, hls.at fun o e => Heap.get?_push_of_some _ e⟩ (F.push _) (fun p hp => ⟨Heap.get?_push_of_some _ (N p (hs p hp)).1, (N p (hs p hp)).2⟩) hj ?_ ?_
  · rintro i h ⟨⟨o, ho, _⟩, ⟨o', ho', _⟩⟩ b hb
    rcases List.mem_cons.mp hb with rfl | hb
    · exact ⟨o, ho⟩
    · rw [List.mem_singleton.mp hb]; exact ⟨o', ho'⟩
  · intro hm
    rcases List.mem_cons.mp hm with e | hm
    · exact absurd F.ns.lt (e ▸ Nat.lt_irrefl _)
    · exact (N _ hl).2.1 (List.mem_singleton.mp hm).symm
  · intro p hp hb
    rcases List.mem_cons.mp hb with e | hb
    · exact absurd (Heap.lt_size (N p (hs p hp)).1) (e ▸ Nat.lt_irrefl _)
    · exact hnl p hp (List.mem_singleton.mp hb)
  · intro i v m₁ nx own s₁ _ hP hJ ho F₁ N₁
    exact turn i v m₁ nx own s₁ (by simpa using hP) hJ ho F₁ N₁
  · exact done
theorem iter_range_grow {r : Addr} {b₀ : Int} {t₀ u₀ v₀ : Tok} {n : Nat} {m₀ : Str → Option Value} {led news : Led} (J : Nat → (Str → Option Value) → Led → Prop)
    (hh : A.handled = none) (hr : IsRange s.heap r 0 b₀ 1 t₀ u₀ v₀) (hsmall : Builtin.Range.small 0 b₀ 1 = true) (hn : Builtin.Range.rangeSize 0 b₀ 1 = (n : Int)) (F : Fr h₀ env.locals s.heap m₀) (N : News h₀ env.locals s.heap led) (hs : ∀ p ∈ news, p ∈ led) (hj : J 0 m₀ news)
    (turn : ∀ (i : Nat) t m₁ nx own (s₁ : Shared), i < n → J i m₁ nx → TbOff own nx → Fr h₀ env.locals s₁.heap m₁ → News h₀ env.locals s₁.heap (nx ++ own) →
      wpAny (model prog w) A (assign (.Name x px) env (.int (i : Int) t)) (fun _ s₃ => wpAny (model prog w) A (execs body env) (GrowPost h₀ env.locals (J (i + 1)) own s₁) E s₃) E s₁)
    (done : ∀ m₁ nx h tk, J n m₁ nx → Fr h₀ env.locals h m₁ → News h₀ env.locals h nx → Q .next { s with heap := h, toks := tk }) :
    wpAny (model prog w) A (pyIter (.ref r)) (fun it s₂ => LoopAtT prog w A h₀ env (.Name x px) body Q E it s₂) E s := by
  refine wpAny_pyIter_range hr hsmall ?_
  have W := LCg.range_walks (prog := prog) (w := w) (I := s.heap.objs.size) hh 0 n
  refine loop_grow J W ?_ ?_ (next_is_new F) ?_ (by show IsRangeIter _ _ _ _ _; rw [hn]; simpa using Heap.get?_push_size _ rfl) (F.push _) (fun p hp => ⟨Heap.get?_push_of_some _ (N p (hs p hp)).1, (N p (hs p hp)).2⟩) hj ?_ ?_
  · intro i h st b hb
    rw [List.mem_singleton.mp hb]; exact ⟨_, st⟩
  · intro hm
    exact absurd F.ns.lt ((List.mem_singleton.mp hm) ▸ Nat.lt_irrefl _)
  · intro p hp hb
    exact absurd (Heap.lt_size (N p (hs p hp)).1) ((List.mem_singleton.mp hb) ▸ Nat.lt_irrefl _)
  · rintro i v m₁ nx own s₁ hi ⟨t, rfl⟩ hJ ho F₁ N₁
    rw [Int.zero_add]
    exact turn i t m₁ nx own s₁ hi hJ ho F₁ N₁
  · exact done
theorem iter_range_grow2 {r : Addr} {b₀ : Int} {t₀ u₀ v₀ : Tok} {n : Nat} {m₀ : Str → Option Value} {led news : Led} (J : Nat → (Str → Option Value) → Led → Prop)
    (hh : A.handled = none) (hr : IsRange s.heap r 0 b₀ 1 t₀ u₀ v₀) (hsmall : Builtin.Range.small 0 b₀ 1 = true) (hn : Builtin.Range.rangeSize 0 b₀ 1 = (n : Int)) (F : Fr h₀ env.locals s.heap m₀) (N : News h₀ env.locals s.heap led) (hs : ∀ p ∈ news, p ∈ led) (hj : J 0 m₀ news)
    (turn : ∀ (i : Nat) t own (s₁ : Shared), i < n → ∀ m₁ nx, J i m₁ nx → TbOff own nx → Fr h₀ env.locals s₁.heap m₁ → News h₀ env.locals s₁.heap (nx ++ own) →
      wpAny (model prog w) A (assign (.Name x px) env (.int (i : Int) t)) (fun _ s₃ => wpAny (model prog w) A (execs body env) (GrowPost h₀ env.locals (J (i + 1)) own s₁) E s₃) E s₁)
    (done : ∀ h tk m₁ nx, J n m₁ nx → Fr h₀ env.locals h m₁ → News h₀ env.locals h nx → Q .next { s with heap := h, toks := tk }) :
    wpAny (model prog w) A (pyIter (.ref r)) (fun it s₂ => LoopAtT prog w A h₀ env (.Name x px) body Q E it s₂) E s :=
  iter_range_grow J hh hr hsmall hn F N hs hj (fun i t m nx own s₁ hi hJ => turn i t own s₁ hi m nx hJ) fun m nx h tk hJ => done h tk m nx hJ
end

section
variable {prog : Program} {w : World} {A : Around} {E : Value → Shared → Prop} {s : Shared} {h₀ : Heap} {L : Addr} {m : Str → Option Value}
theorem sort_ints {D : Addr} {vs : List Value} {ns : List Int} {n : Nat} {rest : Led} {Q : Value → Shared → Prop} (F : Fr h₀ L s.heap m) (N : News h₀ L s.heap ((D, listOf vs.toArray n) :: rest)) (hap : ∀ p ∈ rest, p.1 ≠ D)
    (hi : IntsAre vs ns) (hasc : ns.Pairwise (· ≤ ·)) (h64 : vs.length < 64)
    (h : ∀ vs' n' h', Fr h₀ L h' m → News h₀ L h' ((D, listOf vs'.toArray n') :: rest) → IntsAre vs' ns → Q .none { s with heap := h' }) : wpAny (model prog w) A (call (.builtin "list.sort") [.ref D]) Q E s := by
  have z := N (D, listOf vs.toArray n) (.head _)
  have ho : s.heap.get? D = some (seqObj "list" vs.toArray n) := z.1
  refine wpAny_call_entry PyProof.Rows.slot_list_sort ⟨_, z.1, rfl⟩ PyProof.Rows.entry_list_sort (list_sort_tree (n := n) (vs := vs) ho hi h64 fun out ns' hI hp hP => ⟨.none, rfl, ?_⟩) (PyProof.Rows.args_list_sort _)
  have hns : ns' = ns := lks_uniq hp hP hasc
  subst hns
  have F1 : Fr h₀ L (s.heap.update D (Obj.mapSeq fun _ => (#[] : Array Value))) m := F.change (Heap.SameBut.update ..) z.2.1 z.2.2
  have N1 := ki_turn (pre := []) (fun _ => (#[] : Array Value)) (its' := #[]) N (fun _ h => nomatch h) hap rfl rfl
  have N2 := News.grown N1 fun _ _ e => Heap.get?_push_of_some (seqObj "tuple" vs.toArray 0) e
  have N3 := News.grown N2 fun _ _ e => Heap.get?_push_of_some (seqObj "list" #[] 0) e
  have N4 := ki_turn (pre := []) (fun _ => out) (its' := out) N3 (fun _ h => nomatch h) hap rfl rfl
  have F4 : Fr h₀ L ((((s.heap.update D (Obj.mapSeq fun _ => (#[] : Array Value))).push (seqObj "tuple" vs.toArray 0)).push (seqObj "list" #[] 0)).update D (Obj.mapSeq fun _ => out)) m :=
    ((F1.push (seqObj "tuple" vs.toArray 0)).push (seqObj "list" #[] 0)).change (Heap.SameBut.update ..) z.2.1 z.2.2
  exact h out.toList _ _ F4 (by rw [Array.toArray_toList]; exact N4) hI
end
local macro_rules | `(tactic| walk_at "exec For Name Call cons nil") => `(tactic| refine Stop.mk ?_)
structure EntR where
  (num : Int) (x dx : Nat) (k : EntK) (o g : Int)
noncomputable def entKvs (E : List EntR) : List (Int × Value) := E.map fun e => (e.num, .ref e.x)
noncomputable def entLed (E : List EntR) : Led := E.flatMap fun e => [(e.x, instObj 224 e.dx), (e.dx, entD e.k e.o e.g)]
structure FindR where
  (x dx : Nat) (h1 h2 h3 : Int) (k1 k2 k3 t1 t2 t3 : Nat) (num : Int) (txt : Str)
abbrev findD (f : FindR) : Obj :=
  dictOf [⟨f.h1, .str (Str.ofString "word") f.k1, .str (Str.ofString "entry") f.t1⟩, ⟨f.h2, .str (Str.ofString "place") f.k2, .int f.num f.t2⟩, ⟨f.h3, .str (Str.ofString "text") f.k3, .str f.txt f.t3⟩] 3
noncomputable def findLed (fs : List FindR) : Led := fs.flatMap fun f => [(f.x, instObj 168 f.dx), (f.dx, findD f)]
noncomputable def noObj : Str := Str.ofString "no object at its offset"
noncomputable def otherObj : Str := Str.ofString "another object at its offset"
noncomputable def headB (b : Array UInt8) (o : Int) : Option (Int × Int) := if 0 ≤ o ∧ o < (b.size : Int) then headOut (b.toList.drop o.toNat) else none
noncomputable def verdict (b : Array UInt8) (e : EntR) : Option (Int × Str) :=
  match headB b e.o with
  | none => some (e.num, noObj)
  | some h => if h = (e.num, e.g) then none else some (e.num, otherObj)

theorem finding_new (w : World) (num : Int) (txt : Str) (t1 t2 t3 : Tok) (news : Led) :
    Ctr w 168 [.str (Str.ofString "entry") t1, .int num t2, .str txt t3] news (fun r n => ∃ f : FindR, r = .ref f.x ∧ n = (f.x, instObj 168 f.dx) :: (f.dx, findD f) :: news ∧ f.num = num ∧ f.txt = txt ∧ f.dx < f.x ∧ ∀ p ∈ news, @LT.lt Nat _ p.1 f.dx) 2 16 := by
  unfold Ctr
  k_fill
  intro dp un gd cn cs a ccd cl outer A₀ base h₀ L m s p loose mean mg mb Q E B F X N T hk hd hu hret
  k_dflt (refine' call_cls ?k1 ?k2 ?k3 ?k4 ?k5 ?k6 ?_; (case k1 => k_asm); (case k2 => k_asm); (case k3 => k_asm); (case k4 => k_is); (case k5 => k_is); (case k6 => k_is); intro x dx h' F' N' l1 l2)
  have l1' := l1
  k_lt2 l2
  walk_at "mine enter"
  k_steps
  rename Fr h₀ L _ _ => F9
  rename News h₀ L _ _ => N9
  refine hret _ _ _ _ F9 N9 ⟨⟨x, dx, _, _, _, _, _, _, _, _, _, _, _⟩, rfl, rfl, rfl, rfl, l2, l1'⟩

theorem posOf_drop (b : Array UInt8) {o : Int} (h0 : 0 ≤ o) (h1 : o < (b.size : Int)) : posOf b (b.toList.drop o.toNat) = o := by
  unfold posOf
  rw [List.length_drop, Array.length_toList]
  omega
theorem head_at_none (w : World) (b : Array UInt8) (hb : b.size ≤ 16777216) (tb : Tok) (o : Int) (h0 : 0 ≤ o) (h1 : o < (b.size : Int)) (hh : headOut (b.toList.drop o.toNat) = none) (ta : Nat) (news : Led) :
    Ctr w 186 [.bytes b tb, .int o ta] news (fun r n => r = .none ∧ n = news) 4 32 := by
  have h := head_at_ctr w b hb tb _ (List.drop_suffix o.toNat b.toList) ta news
  rw [posOf_drop b h0 h1, hh] at h
  exact h
theorem head_at_some (w : World) (b : Array UInt8) (hb : b.size ≤ 16777216) (tb : Tok) (o : Int) (h0 : 0 ≤ o) (h1 : o < (b.size : Int)) (i j : Int) (hh : headOut (b.toList.drop o.toNat) = some (i, j)) (ta : Nat) (news : Led) :
    Ctr w 186 [.bytes b tb, .int o ta] news (fun r n => ∃ a t u, r = .ref a ∧ n = (a, tupO [.int i t, .int j u]) :: news ∧ ∀ p ∈ news, p.1 < a) 4 32 := by
  have h := head_at_ctr w b hb tb _ (List.drop_suffix o.toNat b.toList) ta news
  rw [posOf_drop b h0 h1, hh] at h
  exact h
theorem sorted_dict {prog : Program} {w : World} {A : Around} {E : Value → Shared → Prop} {s : Shared} {h₀ : Heap} {L d : Addr} {m : Str → Option Value} {news : Led} {od : Obj} {kvs : List (Int × Value)} {Q : Value → Shared → Prop}
    (hh : A.handled = none) (F : Fr h₀ L s.heap m) (N : News h₀ L s.heap news) (hm : (d, od) ∈ news) (hd : od.IsDictOf (intKind prog w) kvs) (lo : (d == sysModules) = false) (hasc : (kvs.map (·.1)).Pairwise (· ≤ ·)) (h64 : kvs.length < 64)
    (h : ∀ (B : Addr) vs n h' tk, Fr h₀ L h' m → News h₀ L h' ((B, listOf vs.toArray n) :: news) → (∀ q ∈ news, q.1 < B) → IntsAre vs (kvs.map (·.1)) → Q (.ref B) { s with heap := h', toks := tk }) :
    wpAny (model prog w) A (call (.builtin "sorted") [.ref d]) Q E s := by
  have hD : s.heap.DictOf (intKind prog w) d kvs := kda_dict N hm hd
  obtain ⟨ep, hat⟩ := hD.dictAt
  refine kdu_sorted (kdl_dict (knd := intKind prog w) (kvs := kvs) (ep := ep) lo) hh F N hat (kdl_size (by omega)) fun B h' tk vs F' N' l1 hl hv => ?_
  have hi : IntsAre vs (kvs.map (·.1)) := by
    refine intsAre_mk (by rw [hl, List.length_map]) fun j z hj => ?_
    obtain ⟨k, x, hx, hk⟩ := hv j z hj
    obtain ⟨t, rfl⟩ := Value.isInt_shape (k := k) hk
    refine ⟨t, ?_⟩
    rw [List.getD_eq_getElem?_getD, List.getElem?_map, hx]; rfl
  exact sort_ints F' N' (fun p hp => Nat.ne_of_lt (l1 p hp)) hi hasc (by rw [hl]; exact h64) fun vs' n' h'' F'' N'' hi' => h B vs' n' h'' tk F'' N'' l1 hi'
local macro_rules | `(tactic| walk_at "call ref") => `(tactic| (k_here; k_dflt (refine' Ctr.use (finding_new _ _ _ _ _ _ _) ?k1 ?k2 ?k3 ?k4 ?k5 ?k6 ?k7 ?k8 ?_; walk_at "mine sides"; intro r' n' h' tk' F' N' O'; obtain ⟨f', e1', e2', ef1', ef2', lx', lp'⟩ := O'; subst e1'; subst e2'; (have lq' := lp'); (k_lt lp'); (try dsimp only))))
local macro_rules | `(tactic| walk_at "call ref") => `(tactic| (k_here; k_dflt (refine' Ctr.useT (head_at_none _ _ ?hb _ _ ?h0 ?h1 ?hh _ _) ?k1 ?k2 ?k3 ?k4 ?k5 ?k6 ?k7 ?k8 ?_; walk_at "mine sides"; (case hb => assumption); (case h0 => assumption); (case h1 => assumption); (case hh => assumption); intro h' tk' F'; (first | refine eq_all ?_ | refine eq_all2 ?_); intro N'; (try dsimp only))))
local macro_rules | `(tactic| walk_at "call ref") => `(tactic| (k_here; k_dflt (refine' Ctr.use (head_at_some _ _ ?hb _ _ ?h0 ?h1 _ _ ?hh _ _) ?k1 ?k2 ?k3 ?k4 ?k5 ?k6 ?k7 ?k8 ?_; walk_at "mine sides"; (case hb => assumption); (case h0 => assumption); (case h1 => assumption); (case hh => assumption); intro r' n' h' tk' F' N' O'; obtain ⟨a', t', u', e1', e2', lp'⟩ := O'; subst e1'; subst e2'; (k_lt lp'); (try dsimp only))))
local macro_rules | `(tactic| walk_at "subscriptTail Name Name ref int") => `(tactic| (k_here; k_dflt (refine' kda_item (knd := PySem.intKind _ _) ?N ?m ?d (intKind_is _ _ _ _) ?l ?_; (case N => k_asm); (case m => k_mem); (case d => k_asm); (case l => k_asm))))

section
variable {prog : Program} {w : World} {A : Around} {E : Value → Shared → Prop} {s : Shared} {h₀ : Heap} {L a c : Addr} {m : Str → Option Value} {news : Led} {i j k l : Int} {t1 t2 t3 t4 : Tok} {Q : Value → Shared → Prop}
theorem reads_pair (N : News h₀ L s.heap news) (ha : (a, tupO [.int i t1, .int j t2]) ∈ news) : Reads s.heap (.ref a) (.tuple [.int i, .int j]) [] :=
  reads_tuple_at (N _ ha).1 rfl rfl (.cons (.int _ _) (.cons (.int _ _) .nil))
theorem pair_eqv : PyData.eqv (.tuple [.int i, .int j]) (.tuple [.int k, .int l]) = decide ((i, j) = (k, l)) := by
  simp only [PyData.eqv, PyData.eqvAll, Bool.and_true, Prod.mk.injEq]
  rw [Bool.decide_and]
  congr 1
theorem ne_pair (N : News h₀ L s.heap news) (ha : (a, tupO [.int i t1, .int j t2]) ∈ news) (hc : (c, tupO [.int k t3, .int l t4]) ∈ news) (hu : A.units + 64 < cLine) (h : Q (.bool (!decide ((i, j) = (k, l)))) s) :
    wpAny (model prog w) A (compareOp .NotEq (.ref a) (.ref c)) Q E s :=
  ne_dataH (reads_pair N ha) (reads_pair N hc) rfl rfl hu (by rw [pair_eqv]; exact h)
theorem eq_pair (N : News h₀ L s.heap news) (ha : (a, tupO [.int i t1, .int j t2]) ∈ news) (hc : (c, tupO [.int k t3, .int l t4]) ∈ news) (hu : A.units + 64 < cLine) (h : Q (.bool (decide ((i, j) = (k, l)))) s) :
    wpAny (model prog w) A (compareOp .Eq (.ref a) (.ref c)) Q E s :=
  eq_dataH (reads_pair N ha) (reads_pair N hc) rfl rfl hu (by rw [pair_eqv]; exact h)
end
local macro_rules | `(tactic| walk_at "compareOp NotEq ref ref") => `(tactic| (k_here; k_dflt (refine' ne_pair ?N ?a ?c ?u ?_; (case N => k_asm); (case a => k_mem); (case c => k_mem); (case u => ktr_units))))
local macro_rules | `(tactic| walk_at "compareOp Eq ref ref") => `(tactic| (k_here; k_dflt (refine' eq_pair ?N ?a ?c ?u ?_; (case N => k_asm); (case a => k_mem); (case c => k_mem); (case u => ktr_units))))
local macro_rules | `(tactic| walk_at "call builtin:list.append") => `(tactic| (k_here; (with_reducible show wpAny _ _ (call (Value.builtin _) [Value.ref _, _]) _ _ _); k_dflt (refine' append_K ?k1 ?k2 ?k3 ?_ ?z; (case k1 => k_asm); (case k2 => k_asm); (case k3 => k_upd); (case z => assumption)); intro h' F' N'; (try k_sweep)))
theorem name_addr {h₀ h : Heap} {L a : Addr} {q : Addr × Obj} {o : Obj} {rest : Led} (_N : News h₀ L h (q :: (a, o) :: rest)) : ∃ a' : Nat, a' = a := ⟨a, rfl⟩
theorem valueAt_of : ∀ {E : List EntR} {i : Nat} {e : EntR}, (E.map (·.num)).Pairwise (· < ·) → E[i]? = some e → valueAt (entKvs E) e.num = some (.ref e.x)
  | e :: r, 0, e', _, h => by
    cases h
    unfold valueAt entKvs
    simp
  | e :: r, i + 1, e', hp, h => by
    rw [List.map_cons, List.pairwise_cons] at hp
    have ih := valueAt_of (E := r) (i := i) hp.2 h
    have hm : e'.num ∈ r.map (·.num) := List.mem_map_of_mem (List.mem_of_getElem? h)
    have hne : ¬ e.num = e'.num := Int.ne_of_lt (hp.1 _ hm)
    unfold valueAt entKvs at ih ⊢
    rw [List.map_cons, List.find?_cons]
    simp only [hne, decide_false]
    exact ih
theorem entLed_mem {E : List EntR} {e : EntR} (h : e ∈ E) : (e.x, instObj 224 e.dx) ∈ entLed E ∧ (e.dx, entD e.k e.o e.g) ∈ entLed E :=
  ⟨List.mem_flatMap.mpr ⟨e, h, .head _⟩, List.mem_flatMap.mpr ⟨e, h, .tail _ (.head _)⟩⟩
noncomputable def CheckJ (b : Array UInt8) (tb : Tok) (en fl : Nat) (E : List EntR) (news : Led) (i : Nat) (m : Str → Option Value) (nx : Led) : Prop :=
  ∃ (n : Nat) (fs : List FindR), Pins [(Str.ofString "data", .bytes b tb), (Str.ofString "entries", .ref en), (Str.ofString "found", .ref fl)] m ∧ nx = (fl, listOf (fs.map fun f => Value.ref f.x).toArray n) :: (findLed fs ++ news) ∧
    (∀ p ∈ findLed fs ++ news, p.1 ≠ fl) ∧ fs.map (fun f => (f.num, f.txt)) = (E.take i).filterMap (verdict b)

theorem findLed_snoc (fs : List FindR) (f : FindR) : findLed (fs ++ [f]) = findLed fs ++ [(f.x, instObj 168 f.dx), (f.dx, findD f)] := by
  unfold findLed; rw [List.flatMap_append]; rfl
theorem check_same {h₀ h' : Heap} {L : Addr} {b : Array UInt8} {tb : Tok} {en fl : Nat} {E : List EntR} {e : EntR} {news own led : Led} {i n1 tk : Nat} {m' : Str → Option Value} {fs : List FindR} {s₁ : Shared} {o : Obj}
    (F : Fr h₀ L h' m') (N : News h₀ L h' led) (sub : ∀ p ∈ (fl, listOf (fs.map fun f => Value.ref f.x).toArray n1) :: (findLed fs ++ news ++ own), p ∈ led)
    (hpin : Pins [(Str.ofString "data", .bytes b tb), (Str.ofString "entries", .ref en), (Str.ofString "found", .ref fl)] m') (hne : ∀ p ∈ findLed fs ++ news, p.1 ≠ fl) (hoffo : TbOff own ((fl, o) :: (findLed fs ++ news)))
    (hfs : fs.map (fun f => (f.num, f.txt)) = (E.take i).filterMap (verdict b)) (hv : verdict b e = none) (htake : E.take (i + 1) = E.take i ++ [e]) :
    GrowPost h₀ L (CheckJ b tb en fl E news (i + 1)) own s₁ .next { s₁ with heap := h', toks := tk } := by
  refine ⟨rfl, h', tk, m', led, (fl, listOf (fs.map fun f => Value.ref f.x).toArray n1) :: (findLed fs ++ news), rfl, F, N, ?_, ?_, ?_, n1, fs, hpin, rfl, hne, ?_⟩
  · intro p hp
    rcases List.mem_cons.mp hp with rfl | hp
    · exact sub _ (.head _)
    · exact sub _ (.tail _ (List.mem_append_left _ hp))
  · exact fun p hp => sub _ (.tail _ (List.mem_append_right _ hp))
  · intro p hp q hq
    rcases List.mem_cons.mp hq with rfl | hq
    · exact hoffo p hp (fl, o) (.head _)
    · exact hoffo p hp q (.tail _ hq)
  · rw [htake, List.filterMap_append, List.filterMap_cons, hv, List.filterMap_nil, List.append_nil, hfs]
theorem check_more {h₀ h' : Heap} {L : Addr} {b : Array UInt8} {tb : Tok} {en fl : Nat} {E : List EntR} {e : EntR} {news own led : Led} {i n1 tk : Nat} {m' : Str → Option Value} {fs : List FindR} {s₁ : Shared} {o : Obj} {f : FindR}
    (F : Fr h₀ L h' m') (N : News h₀ L h' led) (sub : ∀ p ∈ (f.x, instObj 168 f.dx) :: (f.dx, findD f) :: (fl, listOf ((fs.map fun f => Value.ref f.x).toArray.push (.ref f.x)) (n1 + 1)) :: (findLed fs ++ news ++ own), p ∈ led)
    (hpin : Pins [(Str.ofString "data", .bytes b tb), (Str.ofString "entries", .ref en), (Str.ofString "found", .ref fl)] m') (hne : ∀ p ∈ findLed fs ++ news, p.1 ≠ fl) (hoffo : TbOff own ((fl, o) :: (findLed fs ++ news)))
    (hlt : ∀ p ∈ findLed fs ++ news ++ own, @LT.lt Nat _ p.1 f.dx) (hfl : fl < f.dx) (hx : f.dx < f.x)
    (hfs : fs.map (fun f => (f.num, f.txt)) = (E.take i).filterMap (verdict b)) (hv : verdict b e = some (f.num, f.txt)) (htake : E.take (i + 1) = E.take i ++ [e]) :
    GrowPost h₀ L (CheckJ b tb en fl E news (i + 1)) own s₁ .next { s₁ with heap := h', toks := tk } := by
  have hap : (fs.map fun f => Value.ref f.x).toArray.push (.ref f.x) = ((fs ++ [f]).map fun f => Value.ref f.x).toArray := by
    rw [List.push_toArray, List.map_append]; rfl
  rw [hap] at sub
  have hmem : ∀ p ∈ findLed (fs ++ [f]) ++ news, p = (f.x, instObj 168 f.dx) ∨ p = (f.dx, findD f) ∨ p ∈ findLed fs ++ news := by
    intro p hp
    rw [findLed_snoc] at hp
    rcases List.mem_append.mp hp with hp | hp
    · rcases List.mem_append.mp hp with hp | hp
      · exact .inr (.inr (List.mem_append_left _ hp))
      · rcases List.mem_cons.mp hp with rfl | hp
        · exact .inl rfl
        · exact .inr (.inl (List.mem_singleton.mp hp))
    · exact .inr (.inr (List.mem_append_right _ hp))
  refine ⟨rfl, h', tk, m', led, (fl, listOf ((fs ++ [f]).map fun f => Value.ref f.x).toArray (n1 + 1)) :: (findLed (fs ++ [f]) ++ news), rfl, F, N, ?_, ?_, ?_, n1 + 1, fs ++ [f], hpin, rfl, ?_, ?_⟩
  · intro p hp
    rcases List.mem_cons.mp hp with rfl | hp
    · exact sub _ (.tail _ (.tail _ (.head _)))
    · rcases hmem p hp with rfl | rfl | hp
      · exact sub _ (.head _)
      · exact sub _ (.tail _ (.head _))
      · exact sub _ (.tail _ (.tail _ (.tail _ (List.mem_append_left _ hp))))
  · exact fun p hp => sub _ (.tail _ (.tail _ (.tail _ (List.mem_append_right _ hp))))
  · intro p hp q hq
    have hpl := hlt p (List.mem_append_right _ hp)
    rcases List.mem_cons.mp hq with rfl | hq
    · exact hoffo p hp (fl, o) (.head _)
    · rcases hmem q hq with rfl | rfl | hq
      · exact Nat.ne_of_lt (Nat.lt_trans hpl hx)
      · exact Nat.ne_of_lt hpl
      · exact hoffo p hp q (.tail _ hq)
  · intro p hp
    rcases hmem p hp with rfl | rfl | hp
    · exact Nat.ne_of_gt (Nat.lt_trans hfl hx)
    · exact Nat.ne_of_gt hfl
    · exact hne p hp
  · rw [htake, List.filterMap_append, List.filterMap_cons, hv, List.filterMap_nil, List.map_append, hfs]; rfl
noncomputable def CheckOut (b : Array UInt8) (E : List EntR) (news : Led) (r : Value) (l : Led) : Prop :=
  ∃ (fl n : Nat) (fs : List FindR), r = .ref fl ∧ l = (fl, listOf (fs.map fun f => Value.ref f.x).toArray n) :: (findLed fs ++ news) ∧ fs.map (fun f => (f.num, f.txt)) = E.filterMap (verdict b)

theorem check_ctr (w : World) (b : Array UInt8) (hb : b.size ≤ 16777216) (tb : Tok) (en : Nat) (od : Obj) (E : List EntR) (news : Led) (hen : (en, od) ∈ news) (hod : od.IsDictOf (intKind PySem.Challenge.rw_qd0124_01.row.prog w) (entKvs E)) (lo : (en == sysModules) = false)
    (hasc : (E.map (·.num)).Pairwise (· < ·)) (h64 : E.length < 64) (hled : ∀ p ∈ entLed E, p ∈ news) (hoff : ∀ e ∈ E, 0 ≤ e.o) :
    Ctr w 193 [.bytes b tb, .ref en] news (CheckOut b E news) 6 128 := by
  unfold Ctr
  k_fill
  intro dp un gd cn cs a ccd cl outer A₀ base h₀ L m s p loose mean mg mb Q E' B F X N T hk hd hu hret
  refine wpAny_call ?_
  k_dflt cell_enter
  k_steps
  refine Stop.go ?_
  rename Fr _ _ _ _ => F1
  with_unfolding_all refine' For_invTF F1 ?_ ?ks
  case ks => intro _; with_unfolding_all rfl
  k_steps
  rename Fr _ _ _ _ => F1
  rename News _ _ _ _ => N1
  rename ∀ p ∈ news, p.1 < _ => l9
  have hnum : (entKvs E).map (·.1) = E.map (·.num) := by unfold entKvs; rw [List.map_map]; rfl
  k_dflt (refine sorted_dict rfl F1 N1 (.tail _ hen) hod lo (by rw [hnum]; exact hasc.imp Int.le_of_lt) (by unfold entKvs; rw [List.length_map]; exact h64) ?_)
  intro B1 vs n h1 tk1 F2 N2 l2 hi
  dsimp only
  k_steps
  refine Stop.go ?_
  obtain ⟨fl, hfl⟩ := name_addr N2
  subst hfl
  have hlen : vs.length = E.length := by have := hi.length; rw [hnum, List.length_map] at this; exact this
  refine iter_list_grow (CheckJ b tb en fl E news) (news := (fl, listOf #[] 0) :: news) rfl F2 N2 (.head _) (fun p hp => .tail _ hp) (fun p hp => Nat.ne_of_lt (l2 p hp)) ?_ ?_ ?_
  · refine ⟨0, [], ⟨rfl, rfl, rfl, trivial⟩, rfl, ?_, rfl⟩
    intro p hp
    exact Nat.ne_of_lt (l9 p hp)
  · clear F1 N1 F2 N2
    rintro i v m₁ nx own s₁ hv ⟨n1, fs, hm, rfl, hne, hfs⟩ hoffo F3 N3
    have hil : i < E.length := by rw [← hlen]; exact (List.getElem?_eq_some_iff.mp hv).1
    obtain ⟨e, he⟩ : ∃ e, E[i]? = some e := ⟨_, List.getElem?_eq_getElem hil⟩
    have hem := List.mem_of_getElem? he
    have hva := valueAt_of hasc he
    obtain ⟨t, hx⟩ := hi.get i e.num (by rw [hnum, List.getElem?_map, he]; rfl)
    have hv2 : v = .int e.num t := by rw [hx] at hv; exact (Option.some.inj hv).symm
    subst hv2
    have htake : E.take (i + 1) = E.take i ++ [e] := by rw [List.take_add_one, he]; rfl
    have h0 := hoff e hem
    simp only [List.cons_append] at N3
    have hix : (e.x, instObj 224 e.dx) ∈ findLed fs ++ news ++ own := List.mem_append_left _ (List.mem_append_right _ (hled _ (entLed_mem hem).1))
    have hidx : (e.dx, entD e.k e.o e.g) ∈ findLed fs ++ news ++ own := List.mem_append_left _ (List.mem_append_right _ (hled _ (entLed_mem hem).2))
    have hne2 : ∀ p ∈ findLed fs ++ news ++ own, p.1 ≠ fl := fun p hp => (List.mem_append.mp hp).elim (hne p) fun h => hoffo p h _ (.head _)
    have hen2 : (en, od) ∈ findLed fs ++ news ++ own := List.mem_append_left _ (List.mem_append_right _ hen)
    rw [← pinM_eq hm] at F3
    dsimp only [pinM] at F3
    have hfl2 : (fs.map fun f => Value.ref f.x).toArray.size ≤ sizeLine := by
      have h1 := congrArg List.length hfs
      have h2 := List.length_filterMap_le (verdict b) (E.take i)
      rw [List.length_map] at h1
      rw [List.length_take] at h2
      rw [List.size_toArray, List.length_map, sizeLine_eq]
      omega
    by_cases hsz : e.o < (b.size : Int)
    · cases hho : headOut (b.toList.drop e.o.toNat) with
      | none =>
        have hhb : headB b e.o = none := by unfold headB; rw [if_pos ⟨h0, hsz⟩, hho]
        k_steps
        rename News _ _ _ _ => N5
        rename Fr _ _ _ _ => F5
        rename _ < _ ∧ AllLt _ _ => lp9
        refine check_more F5 N5 (fun p hp => hp) ⟨rfl, rfl, rfl, trivial⟩ hne hoffo (ktn_ltOf lp9.2) lp9.1 (by assumption) hfs ?_ htake
        unfold verdict; rw [hhb]
        simp only [*]; rfl
      | some ij =>
        obtain ⟨hi1, hj1⟩ := ij
        have hhb : headB b e.o = some (hi1, hj1) := by unfold headB; rw [if_pos ⟨h0, hsz⟩, hho]
        k_steps
        · rename News _ _ _ _ => N5
          rename Fr _ _ _ _ => F5
          rename (hi1, hj1) = _ => hpq
          refine check_same F5 N5 (fun p hp => .tail _ (.tail _ hp)) ⟨rfl, rfl, rfl, trivial⟩ hne hoffo hfs ?_ htake
          unfold verdict; rw [hhb]
          exact if_pos hpq
        · rename News _ _ _ _ => N5
          rename Fr _ _ _ _ => F5
          rename ¬ (hi1, hj1) = _ => hpq
          rename _ < _ ∧ _ < _ ∧ _ < _ ∧ AllLt _ _ => lp9
          refine check_more (n1 := n1) F5 N5 ?_ ⟨rfl, rfl, rfl, trivial⟩ hne hoffo (ktn_ltOf lp9.2.2.2) lp9.2.2.1 (by assumption) hfs ?_ htake
          · intro p hp
            rcases List.mem_cons.mp hp with rfl | hp
            · exact .head _
            · rcases List.mem_cons.mp hp with rfl | hp
              · exact .tail _ (.head _)
              · exact .tail _ (.tail _ (.tail _ (.tail _ hp)))
          · unfold verdict; rw [hhb]
            simp only [*, if_neg hpq]; rfl
    · have hhb : headB b e.o = none := by unfold headB; rw [if_neg fun g => hsz g.2]
      k_steps
      rename News _ _ _ _ => N5
      rename Fr _ _ _ _ => F5
      rename _ < _ ∧ AllLt _ _ => lp9
      refine check_more F5 N5 (fun p hp => hp) ⟨rfl, rfl, rfl, trivial⟩ hne hoffo (ktn_ltOf lp9.2) lp9.1 (by assumption) hfs ?_ htake
      unfold verdict; rw [hhb]
      simp only [*]; rfl
  · clear F1 N1 F2 N2
    rintro m₁ nx h3 tk3 ⟨n1, fs, hm, rfl, hne, hfs⟩ F3 N3
    rw [← pinM_eq hm] at F3
    dsimp only [pinM] at F3
    k_steps
    rename Fr h₀ L _ _ => F9
    rename News h₀ L _ _ => N9
    refine hret _ _ _ _ F9 N9 ⟨fl, n1, fs, rfl, rfl, ?_⟩
    rw [hfs, hlen, List.take_length]
structure RowR where
  (a hd : Nat) (off : Int) (t tn tg tb : Nat) (num : Nat) (q : HP)
noncomputable def headV (r : RowR) : Value := if headIs r.q = true then .ref r.hd else .none
noncomputable def rowOne (r : RowR) : Led := (r.a, tupO [.int r.off r.t, headV r, .bool (parted r.q)]) :: (if headIs r.q = true then [(r.hd, tupO [.int r.num r.tn, .int (genZ r.q.gi) r.tg])] else [])
noncomputable def rowLed (R : List RowR) : Led := R.flatMap rowOne
noncomputable def endB : List UInt8 := [10, 101, 110, 100, 111, 98, 106, 10]
noncomputable def RowAt (b : Array UInt8) (r : RowR) : Prop := ∃ pre post, b.toList = pre ++ (headOcts r.num r.q ++ endB ++ post) ∧ r.off = (pre.length : Int) ∧ r.q.ok ∧ r.num ∈ smallNums
theorem headOcts_sz {num : Nat} {q : HP} (hn : num ∈ smallNums) (hq : q.ok) : (headOcts num q).toArray.size ≤ 80 := by
  have h1 := fig_sz (z := (num : Int)) (f := q.f0) ⟨hn, Int.natCast_nonneg _⟩
  have h2 : (figOut (genZ q.gi).toNat q.f1).toArray.size ≤ 26 := by
    refine fig_sz (z := genZ q.gi) (f := q.f1) ?_
    obtain ⟨h, _⟩ := hq
    have : q.gi = 0 ∨ q.gi = 1 ∨ q.gi = 2 := by omega
    rcases this with e | e | e <;> rw [e] <;> exact ⟨by decide, by decide⟩
  have h3 := gap_sz (j := q.g0)
  have h4 := gap_sz (j := q.g1)
  have h5 := word_sz (j := q.wd)
  have h6 := beh_sz (j := q.bh)
  unfold headOcts
  rw [Int.toNat_natCast] at h1
  simp only [List.size_toArray, List.length_append] at *
  omega
theorem head3 (w : World) (tp : Nat) (d sd c : Int) (t1 t2 t3 n : Nat) (z : Int) (tm : Nat) (news : Led) (hz : z.toNat ∈ smallNums ∧ 0 ≤ z) (hd0 : 0 ≤ d) (hs0 : 0 ≤ sd) (hs1 : sd < 1000000007) (hc0 : 0 ≤ c) (hc1 : c < 900000) (h2 : ∀ p ∈ news, p.1 ≠ tp) :
    Ctr w 262 [.ref tp, .int z tm] ((tp, tapeO d sd c t1 t2 t3 n) :: news) (fun r l => HeadOut tp sd c z.toNat news r l ∧ z.toNat ∈ smallNums ∧ 0 ≤ z) 3 32 := by
  have h := head_ctr w tp d sd c t1 t2 t3 n z.toNat tm news hz.1 hd0 hs0 hs1 hc0 hc1 h2
  rw [Int.toNat_of_nonneg hz.2] at h
  exact h.mono fun _ _ o => ⟨o, hz⟩
theorem head_all {P : Value → Led → Prop} {tp : Nat} {sd c z : Int} {news : Led}
    (k1 : ∀ (q : HP) (d' c' : Int) (t1 t2 t3 n a t hd tn tg : Nat), q.ok → 0 ≤ d' → 0 ≤ c' → c' ≤ c + 20 → tp < a → (∀ p ∈ news, @LT.lt Nat _ p.1 a) → z.toNat ∈ smallNums → 0 ≤ z → headIs q = true → tp < hd → hd < a → (∀ p ∈ news, @LT.lt Nat _ p.1 hd) →
      P (.ref a) ((a, tupO [.bytes (headOcts z.toNat q).toArray t, .ref hd, .bool (parted q)]) :: (hd, tupO [.int z.toNat tn, .int (genZ q.gi) tg]) :: (tp, tapeO d' sd c' t1 t2 t3 n) :: news))
    (k2 : ∀ (q : HP) (d' c' : Int) (t1 t2 t3 n a t : Nat), q.ok → 0 ≤ d' → 0 ≤ c' → c' ≤ c + 20 → tp < a → (∀ p ∈ news, @LT.lt Nat _ p.1 a) → z.toNat ∈ smallNums → 0 ≤ z → headIs q = false →
      P (.ref a) ((a, tupO [.bytes (headOcts z.toNat q).toArray t, .none, .bool (parted q)]) :: (tp, tapeO d' sd c' t1 t2 t3 n) :: news)) :
    ∀ r n, HeadOut tp sd c z.toNat news r n ∧ z.toNat ∈ smallNums ∧ 0 ≤ z → P r n := by
  rintro _ _ ⟨⟨q, d', c', t1, t2, t3, n, a, t, hq, b1, b2, b3, rfl, l1, l2, O⟩, z1, z2⟩
  rcases O with ⟨hh, hd, tn, tg, l3, l4, l5, rfl⟩ | ⟨hh, rfl⟩
  · exact k1 q d' c' t1 t2 t3 n a t hd tn tg hq b1 b2 b3 l1 l2 z1 z2 hh l3 l4 l5
  · exact k2 q d' c' t1 t2 t3 n a t hq b1 b2 b3 l1 l2 z1 z2 hh
theorem num_ok {dg : Int} {i : Nat} (h0 : 0 ≤ dg) (h1 : dg < 3) (h2 : i < 5) : (1 + 6 * dg + (i : Int)).toNat ∈ smallNums ∧ 0 ≤ 1 + 6 * dg + (i : Int) := by
  refine ⟨?_, by omega⟩
  have : ∃ k, k < 18 ∧ (1 + 6 * dg + (i : Int)).toNat = k := ⟨_, by omega, rfl⟩
  obtain ⟨k, hk, e⟩ := this
  rw [e]
  have : (List.range 18).all (fun k => decide (k ∈ smallNums)) = true := by decide
  exact of_decide_eq_true (List.all_eq_true.mp this k (List.mem_range.mpr hk))
theorem RowAt.grow {b : Array UInt8} {x : List UInt8} {r : RowR} (h : RowAt b r) : RowAt (b ++ x.toArray) r := by
  obtain ⟨pre, post, e, h1, h2, h3⟩ := h
  exact ⟨pre, post ++ x, by rw [Array.toList_append, e]; simp [List.append_assoc], h1, h2, h3⟩
theorem news_lt {h₀ h : Heap} {L : Addr} {l : Led} (N : News h₀ L h l) : ∀ p ∈ l, @LT.lt Nat _ p.1 h.objs.size := fun p hp => Heap.lt_size (N p hp).1
noncomputable def LoopOne (tp rl en dl : Nat) (sd : Int) (base : Led) (i : Nat) (m : Str → Option Value) (nx : Led) : Prop :=
  ∃ (R : List RowR) (b : Array UInt8) (tb t1 t2 t3 n n2 : Nat) (d c : Int), Pins [(Str.ofString "tape", .ref tp), (Str.ofString "data", .bytes b tb), (Str.ofString "rows", .ref rl), (Str.ofString "entries", .ref en), (Str.ofString "due", .ref dl)] m ∧
    0 ≤ d ∧ 0 ≤ c ∧ c ≤ 30 * i + 2 ∧ R.length = i ∧ b.size ≤ 9 + 100 * i ∧ (∀ r ∈ R, RowAt b r) ∧ nx = (tp, tapeO d sd c t1 t2 t3 n) :: (rl, listOf (R.map fun r => Value.ref r.a).toArray n2) :: (rowLed R ++ base) ∧
    (∀ p ∈ rowLed R ++ base, p.1 ≠ tp ∧ p.1 ≠ rl)
theorem LoopOne.all {P : (Str → Option Value) → Led → Prop} {tp rl en dl : Nat} {sd : Int} {base : Led} {i : Nat}
    (k : ∀ (m : Str → Option Value) (R : List RowR) (b : Array UInt8) (tb t1 t2 t3 n n2 : Nat) (d c : Int), Pins [(Str.ofString "tape", .ref tp), (Str.ofString "data", .bytes b tb), (Str.ofString "rows", .ref rl), (Str.ofString "entries", .ref en), (Str.ofString "due", .ref dl)] m →
      0 ≤ d → 0 ≤ c → c ≤ 30 * i + 2 → R.length = i → b.size ≤ 9 + 100 * i → (∀ r ∈ R, RowAt b r) → (∀ p ∈ rowLed R ++ base, p.1 ≠ tp ∧ p.1 ≠ rl) →
      P m ((tp, tapeO d sd c t1 t2 t3 n) :: (rl, listOf (R.map fun r => Value.ref r.a).toArray n2) :: (rowLed R ++ base))) :
    ∀ m nx, LoopOne tp rl en dl sd base i m nx → P m nx := by
  rintro m _ ⟨R, b, tb, t1, t2, t3, n, n2, d, c, hm, g1, g2, g3, hR, hbz, hRA, rfl, hne⟩
  exact k m R b tb t1 t2 t3 n n2 d c hm g1 g2 g3 hR hbz hRA hne
theorem name_it {α : Sort _} {P : Prop} (a : α) (k : ∀ x, x = a → P) : P := k a rfl
theorem name_lt {P : Prop} {x tp : Nat} (q : x < tp) (k : ∀ c : Nat, c = x → c < tp → P) : P := k x rfl q
theorem rowLed_snoc (R : List RowR) (r : RowR) : rowLed (R ++ [r]) = rowLed R ++ rowOne r := by
  unfold rowLed; rw [List.flatMap_append]; simp
theorem one_more {h₀ h' : Heap} {L : Addr} {tp rl en dl : Nat} {sd d c d0 c0 : Int} {b : Array UInt8} {tb t1 t2 t3 n t1' t2' t3' n' n2 i tk : Nat} {base own led : Led} {m' : Str → Option Value} {R : List RowR} {r : RowR} {s₁ : Shared} {oR : Obj}
    (F : Fr h₀ L h' m') (N : News h₀ L h' led) (sub : ∀ p ∈ (tp, tapeO d sd c t1 t2 t3 n) :: (rl, listOf ((R.map fun r => Value.ref r.a).toArray.push (.ref r.a)) (n2 + 1)) :: (rowOne r ++ (rowLed R ++ base ++ own)), p ∈ led)
    (hpin : Pins [(Str.ofString "tape", .ref tp), (Str.ofString "data", .bytes (b ++ (headOcts r.num r.q).toArray ++ #[10, 101, 110, 100, 111, 98, 106, 10]) tb), (Str.ofString "rows", .ref rl), (Str.ofString "entries", .ref en), (Str.ofString "due", .ref dl)] m')
    (hne : ∀ p ∈ rowLed R ++ base, p.1 ≠ tp ∧ p.1 ≠ rl) (hoff : TbOff own ((tp, tapeO d0 sd c0 t1' t2' t3' n') :: (rl, oR) :: (rowLed R ++ base)))
    (la : ∀ p ∈ rowLed R ++ base ++ own, @LT.lt Nat _ p.1 r.a) (lh : headIs r.q = true → (∀ p ∈ rowLed R ++ base ++ own, @LT.lt Nat _ p.1 r.hd) ∧ tp < r.hd ∧ rl < r.hd) (lt : tp < r.a ∧ rl < r.a)
    (g1 : 0 ≤ d) (g2 : 0 ≤ c) (g3 : c ≤ 30 * ((i + 1 : Nat) : Int) + 2) (hR : R.length = i) (hbz : b.size ≤ 9 + 100 * i) (hRA : ∀ r ∈ R, RowAt b r) (hq : r.q.ok) (hn : r.num ∈ smallNums) (ho : r.off = (b.size : Int)) :
    GrowPost h₀ L (LoopOne tp rl en dl sd base (i + 1)) own s₁ .next { s₁ with heap := h', toks := tk } := by
  have hap : (R.map fun r => Value.ref r.a).toArray.push (.ref r.a) = ((R ++ [r]).map fun r => Value.ref r.a).toArray := by
    rw [List.push_toArray, List.map_append]; rfl
  rw [hap] at sub
  have hz := headOcts_sz hn hq
  have h1 : ∀ p ∈ rowOne r, p.1 = r.a ∨ (headIs r.q = true ∧ p.1 = r.hd) := by
    intro p hp
    unfold rowOne at hp
    rcases List.mem_cons.mp hp with rfl | hp
    · exact .inl rfl
    · by_cases hh : headIs r.q = true
      · rw [if_pos hh] at hp
        rw [List.mem_singleton.mp hp]
        exact .inr ⟨hh, rfl⟩
      · rw [if_neg hh] at hp
        nomatch hp
  have h2 : ∀ p ∈ rowLed (R ++ [r]) ++ base, p ∈ rowOne r ∨ p ∈ rowLed R ++ base := by
    intro p hp
    rw [rowLed_snoc] at hp
    rcases List.mem_append.mp hp with hp | hp
    · rcases List.mem_append.mp hp with hp | hp
      · exact .inr (List.mem_append_left _ hp)
      · exact .inl hp
    · exact .inr (List.mem_append_right _ hp)
  refine ⟨rfl, h', tk, m', led, (tp, tapeO d sd c t1 t2 t3 n) :: (rl, listOf ((R ++ [r]).map fun r => Value.ref r.a).toArray (n2 + 1)) :: (rowLed (R ++ [r]) ++ base), rfl, F, N, ?_, ?_, ?_,
    R ++ [r], _, tb, t1, t2, t3, n, n2 + 1, d, c, hpin, g1, g2, g3, by rw [List.length_append, hR]; rfl, ?_, ?_, rfl, ?_⟩
  · intro p hp
    rcases List.mem_cons.mp hp with rfl | hp
    · exact sub _ (.head _)
    · rcases List.mem_cons.mp hp with rfl | hp
      · exact sub _ (.tail _ (.head _))
      · rcases h2 p hp with hp | hp
        · exact sub _ (.tail _ (.tail _ (List.mem_append_left _ hp)))
        · exact sub _ (.tail _ (.tail _ (List.mem_append_right _ (List.mem_append_left _ hp))))
  · exact fun p hp => sub _ (.tail _ (.tail _ (List.mem_append_right _ (List.mem_append_right _ hp))))
  · intro p hp q hq
    have hpo : p ∈ rowLed R ++ base ++ own := List.mem_append_right _ hp
    rcases List.mem_cons.mp hq with rfl | hq
    · exact hoff p hp (tp, tapeO d0 sd c0 t1' t2' t3' n') (.head _)
    · rcases List.mem_cons.mp hq with rfl | hq
      · exact hoff p hp (rl, oR) (.tail _ (.head _))
      · rcases h2 q hq with hq | hq
        · rcases h1 q hq with e | ⟨hh, e⟩
          · rw [e]; exact Nat.ne_of_lt (la p hpo)
          · rw [e]; exact Nat.ne_of_lt ((lh hh).1 p hpo)
        · exact hoff p hp q (.tail _ (.tail _ hq))
  · simp only [List.size_toArray, Array.size_append, List.length_cons, List.length_nil] at hz ⊢
    omega
  · intro r' hr'
    rcases List.mem_append.mp hr' with hr' | hr'
    · have := (hRA r' hr').grow (x := headOcts r.num r.q ++ [10, 101, 110, 100, 111, 98, 106, 10])
      rw [← List.append_toArray] at this
      rwa [Array.append_assoc]
    · rw [List.mem_singleton.mp hr']
      refine ⟨b.toList, [], ?_, ?_, hq, hn⟩
      · simp [endB]
      · rw [ho, Array.length_toList]
  · intro p hp
    rcases h2 p hp with hp | hp
    · rcases h1 p hp with e | ⟨hh, e⟩
      · rw [e]; exact ⟨Nat.ne_of_gt lt.1, Nat.ne_of_gt lt.2⟩
      · rw [e]; exact ⟨Nat.ne_of_gt (lh hh).2.1, Nat.ne_of_gt (lh hh).2.2⟩
    · exact hne p hp
theorem addr_facts {cl tp rl en dl : Addr} (l4 : en < dl ∧ rl < dl ∧ tp < dl ∧ cl < dl) (l3 : rl < en ∧ tp < en ∧ cl < en) (l2 : tp < rl ∧ cl < rl) (l1 : cl < tp) :
    ∃ c' t' r' e' d' : Nat, c' = cl ∧ t' = tp ∧ r' = rl ∧ e' = en ∧ d' = dl ∧ c' < t' ∧ t' < r' ∧ r' < e' ∧ e' < d' := ⟨_, _, _, _, _, rfl, rfl, rfl, rfl, rfl, l1, l2.1, l3.1, l4.1⟩
theorem start_names {h₀ h : Heap} {L : Addr} {p0 p1 p2 p3 p5 : Addr × Obj} {tp : Addr} {d s c : Int} {t1 t2 t3 n : Nat} (_N : News h₀ L h [p0, p1, p2, p3, (tp, tapeO d s c t1 t2 t3 n), p5]) :
    ∃ (od oc : Obj) (d' s' c' : Int) (t1' t2' t3' n' : Nat), od = p2.2 ∧ oc = p5.2 ∧ d' = d ∧ s' = s ∧ c' = c ∧ t1' = t1 ∧ t2' = t2 ∧ t3' = t3 ∧ n' = n := ⟨_, _, _, _, _, _, _, _, _, rfl, rfl, rfl, rfl, rfl, rfl, rfl, rfl, rfl⟩
theorem range_sm {dg : Int} (h0 : 0 ≤ dg) (h1 : dg < 5) : Builtin.Range.small 0 (1 + dg) 1 = true ∧ Builtin.Range.rangeSize 0 (1 + dg) 1 = ((1 + dg).toNat : Int) := by
  have : dg = 0 ∨ dg = 1 ∨ dg = 2 ∨ dg = 3 ∨ dg = 4 := by omega
  rcases this with rfl | rfl | rfl | rfl | rfl <;> exact ⟨by decide, by decide⟩
theorem one_some {h₀ h' : Heap} {L : Addr} {tp rl en dl : Nat} {sd d c d0 c0 : Int} {b : Array UInt8} {tb t1 t2 t3 n t1' t2' t3' n' n2 i tk : Nat} {base own : Led} {m' : Str → Option Value} {R : List RowR} {s₁ : Shared} {oR o2 : Obj} {X hd a2 t tn tg num : Nat} {q : HP}
    (F : Fr h₀ L h' m') (N : News h₀ L h' ((X, tupO [.int (b.size : Int) t, .ref hd, .bool (parted q)]) :: (a2, o2) :: (hd, tupO [.int (num : Int) tn, .int (genZ q.gi) tg]) :: (tp, tapeO d sd c t1 t2 t3 n) :: (rl, listOf ((R.map fun r => Value.ref r.a).toArray.push (.ref X)) (n2 + 1)) :: (rowLed R ++ base ++ own)))
    (hpin : Pins [(Str.ofString "tape", .ref tp), (Str.ofString "data", .bytes (b ++ (headOcts num q).toArray ++ #[10, 101, 110, 100, 111, 98, 106, 10]) tb), (Str.ofString "rows", .ref rl), (Str.ofString "entries", .ref en), (Str.ofString "due", .ref dl)] m')
    (hne : ∀ p ∈ rowLed R ++ base, p.1 ≠ tp ∧ p.1 ≠ rl) (hoff : TbOff own ((tp, tapeO d0 sd c0 t1' t2' t3' n') :: (rl, oR) :: (rowLed R ++ base)))
    (hh : headIs q = true) (lX : ∀ p ∈ (a2, o2) :: (hd, tupO [.int (num : Int) tn, .int (genZ q.gi) tg]) :: (tp, tapeO d sd c t1 t2 t3 n) :: (rl, oR) :: (rowLed R ++ base ++ own), @LT.lt Nat _ p.1 X) (lh : rl < hd ∧ AllLt hd (rowLed R ++ base ++ own)) (lt : tp < hd)
    (g1 : 0 ≤ d) (g2 : 0 ≤ c) (g3 : c ≤ 30 * ((i + 1 : Nat) : Int) + 2) (hR : R.length = i) (hbz : b.size ≤ 9 + 100 * i) (hRA : ∀ r ∈ R, RowAt b r) (hq : q.ok) (hn : num ∈ smallNums) :
    GrowPost h₀ L (LoopOne tp rl en dl sd base (i + 1)) own s₁ .next { s₁ with heap := h', toks := tk } := by
  have hv : headV ⟨X, hd, b.size, t, tn, tg, 0, num, q⟩ = .ref hd := if_pos hh
  refine one_more (t1 := t1) (t2 := t2) (t3 := t3) (n := n) (n2 := n2) (r := ⟨X, hd, b.size, t, tn, tg, 0, num, q⟩) F N ?_ hpin hne hoff (fun p hp => lX p (.tail _ (.tail _ (.tail _ (.tail _ hp))))) (fun _ => ⟨ktn_ltOf lh.2, lt, lh.1⟩) ⟨lX _ (.tail _ (.tail _ (.head _))), lX _ (.tail _ (.tail _ (.tail _ (.head _))))⟩ g1 g2 g3 hR hbz hRA hq hn rfl
  intro p hp
  rcases List.mem_cons.mp hp with rfl | hp
  · exact .tail _ (.tail _ (.tail _ (.head _)))
  · rcases List.mem_cons.mp hp with rfl | hp
    · exact .tail _ (.tail _ (.tail _ (.tail _ (.head _))))
    · rcases List.mem_append.mp hp with hp | hp
      · unfold rowOne at hp
        rw [hv, if_pos hh] at hp
        rcases List.mem_cons.mp hp with rfl | hp
        · exact .head _
        · rw [List.mem_singleton.mp hp]
          exact .tail _ (.tail _ (.head _))
      · exact .tail _ (.tail _ (.tail _ (.tail _ (.tail _ hp))))
theorem one_none {h₀ h' : Heap} {L : Addr} {tp rl en dl : Nat} {sd d c d0 c0 : Int} {b : Array UInt8} {tb t1 t2 t3 n t1' t2' t3' n' n2 i tk : Nat} {base own : Led} {m' : Str → Option Value} {R : List RowR} {s₁ : Shared} {oR o2 : Obj} {X hd a2 t tn tg num : Nat} {q : HP}
    (F : Fr h₀ L h' m') (N : News h₀ L h' ((X, tupO [.int (b.size : Int) t, .none, .bool (parted q)]) :: (a2, o2) :: (tp, tapeO d sd c t1 t2 t3 n) :: (rl, listOf ((R.map fun r => Value.ref r.a).toArray.push (.ref X)) (n2 + 1)) :: (rowLed R ++ base ++ own)))
    (hpin : Pins [(Str.ofString "tape", .ref tp), (Str.ofString "data", .bytes (b ++ (headOcts num q).toArray ++ #[10, 101, 110, 100, 111, 98, 106, 10]) tb), (Str.ofString "rows", .ref rl), (Str.ofString "entries", .ref en), (Str.ofString "due", .ref dl)] m')
    (hne : ∀ p ∈ rowLed R ++ base, p.1 ≠ tp ∧ p.1 ≠ rl) (hoff : TbOff own ((tp, tapeO d0 sd c0 t1' t2' t3' n') :: (rl, oR) :: (rowLed R ++ base)))
    (hh : headIs q = false) (lX : ∀ p ∈ (a2, o2) :: (tp, tapeO d sd c t1 t2 t3 n) :: (rl, oR) :: (rowLed R ++ base ++ own), @LT.lt Nat _ p.1 X)
    (g1 : 0 ≤ d) (g2 : 0 ≤ c) (g3 : c ≤ 30 * ((i + 1 : Nat) : Int) + 2) (hR : R.length = i) (hbz : b.size ≤ 9 + 100 * i) (hRA : ∀ r ∈ R, RowAt b r) (hq : q.ok) (hn : num ∈ smallNums) :
    GrowPost h₀ L (LoopOne tp rl en dl sd base (i + 1)) own s₁ .next { s₁ with heap := h', toks := tk } := by
  have hb : ¬ headIs q = true := by rw [hh]; exact Bool.false_ne_true
  have hv : headV ⟨X, 0, b.size, t, 0, 0, 0, num, q⟩ = .none := if_neg hb
  refine one_more (t1 := t1) (t2 := t2) (t3 := t3) (n := n) (n2 := n2) (r := ⟨X, 0, b.size, t, 0, 0, 0, num, q⟩) F N ?_ hpin hne hoff (fun p hp => lX p (.tail _ (.tail _ (.tail _ hp)))) (fun g => absurd g hb) ⟨lX _ (.tail _ (.head _)), lX _ (.tail _ (.tail _ (.head _)))⟩ g1 g2 g3 hR hbz hRA hq hn rfl
  intro p hp
  rcases List.mem_cons.mp hp with rfl | hp
  · exact .tail _ (.tail _ (.head _))
  · rcases List.mem_cons.mp hp with rfl | hp
    · exact .tail _ (.tail _ (.tail _ (.head _)))
    · rcases List.mem_append.mp hp with hp | hp
      · unfold rowOne at hp
        rw [hv, if_neg hb] at hp
        rw [List.mem_singleton.mp hp]
        exact .head _
      · exact .tail _ (.tail _ (.tail _ (.tail _ hp)))
noncomputable def figOkB (n f : Nat) : Bool := (figOut n f).all figB && decide (0 < (figOut n f).length) && decide (numL (figOut n f) = (n : Int)) && (decide ((figOut n f).length ≤ 20) == decide (f < 4))
theorem figOkB_all : smallNums.all (fun n => (List.range 5).all fun f => figOkB n f) = true := by decide +kernel
theorem fig_facts {n f : Nat} (hn : n ∈ smallNums) (hf : f < 5) : (∀ c ∈ figOut n f, figB c = true) ∧ 0 < (figOut n f).length ∧ numL (figOut n f) = (n : Int) ∧ ((figOut n f).length ≤ 20 ↔ f < 4) := by
  have h := List.all_eq_true.mp (List.all_eq_true.mp figOkB_all n hn) f (List.mem_range.mpr hf)
  unfold figOkB at h
  simp only [Bool.and_eq_true, decide_eq_true_eq, beq_iff_eq, List.all_eq_true] at h
  obtain ⟨⟨⟨h1, h2⟩, h3⟩, h4⟩ := h
  exact ⟨h1, h2, h3, by have := congrArg (· = true) h4; simpa using this⟩
noncomputable def startsNoFig (r : List UInt8) : Prop := ∀ c s, r = c :: s → figB c = false
theorem num_fig {n f : Nat} {r : List UInt8} (hn : n ∈ smallNums) (hf : f < 5) (hr : startsNoFig r) : numOut (figOut n f ++ r) = (if f < 4 then some (n : Int) else none) ∧ (figOut n f ++ r).dropWhile figB = r := by
  obtain ⟨h1, h2, h3, h4⟩ := fig_facts hn hf
  have z := takeWhile_split (p := figB) h1 hr
  refine ⟨?_, z.2⟩
  unfold numOut
  rw [z.1, h3]
  by_cases h : f < 4
  · rw [if_pos h, if_pos ⟨h2, h4.mpr h⟩]
  · rw [if_neg h, if_neg fun g => h (h4.mp g.2)]
theorem fig_start {n f : Nat} (hn : n ∈ smallNums) (hf : f < 5) : ∃ c s, figOut n f = c :: s ∧ c ≠ 37 ∧ white (c.toNat : Int) = false := by
  obtain ⟨h1, h2, _, _⟩ := fig_facts hn hf
  match e : figOut n f with
  | [] => rw [e] at h2; exact absurd h2 (by decide)
  | c :: s =>
    have hc := h1 c (by rw [e]; exact .head _)
    refine ⟨c, s, rfl, ?_, ?_⟩
    · rintro rfl; exact absurd hc (by decide)
    · unfold figB at hc
      simp only [Bool.and_eq_true, decide_eq_true_eq] at hc
      unfold white
      simp only [Bool.or_eq_false_iff, beq_eq_false_iff_ne, ne_eq]
      omega
theorem skip_gap {g : Nat} (hg : g < 7) {c : UInt8} {s : List UInt8} (h1 : c ≠ 37) (h2 : white (c.toNat : Int) = false) : skipW (gapsB.getD g [] ++ c :: s) = c :: s := by
  have hs := skipW_stop s h1 h2
  match g, hg with
  | 0, _ => show skipW (32 :: c :: s) = _; rw [skipW_white _ (by decide) (by decide), hs]
  | 1, _ => show skipW (10 :: c :: s) = _; rw [skipW_white _ (by decide) (by decide), hs]
  | 2, _ => show skipW (13 :: 10 :: c :: s) = _; rw [skipW_white _ (by decide) (by decide), skipW_white _ (by decide) (by decide), hs]
  | 3, _ => show skipW (9 :: 32 :: c :: s) = _; rw [skipW_white _ (by decide) (by decide), skipW_white _ (by decide) (by decide), hs]
  | 4, _ => show skipW (37 :: 99 :: 10 :: c :: s) = _; rw [skipW_com, dropCom, if_neg (by decide), dropCom, if_pos (by decide), skipW_white _ (by decide) (by decide), hs]
  | 5, _ =>
    show skipW (32 :: 37 :: 49 :: 32 :: 48 :: 32 :: 111 :: 98 :: 106 :: 13 :: c :: s) = _
    rw [skipW_white _ (by decide) (by decide), skipW_com, dropCom, if_neg (by decide), dropCom, if_neg (by decide), dropCom, if_neg (by decide), dropCom, if_neg (by decide), dropCom, if_neg (by decide), dropCom, if_neg (by decide), dropCom, if_neg (by decide), dropCom, if_pos (by decide), skipW_white _ (by decide) (by decide), hs]
  | 6, _ => show skipW (0 :: 12 :: c :: s) = _; rw [skipW_white _ (by decide) (by decide), skipW_white _ (by decide) (by decide), hs]
theorem gap_pos {g : Nat} (hg : g < 7) : 0 < (gapsB.getD g []).length := by
  have : (List.range 7).all (fun g => decide (0 < (gapsB.getD g []).length)) = true := by decide
  exact of_decide_eq_true (List.all_eq_true.mp this g (List.mem_range.mpr hg))
theorem gap_nofig7 {g : Nat} (hg : g < 10) (h7 : g ≠ 7) (r : List UInt8) : startsNoFig (gapsB.getD g [] ++ r) := by
  intro c s e
  have h : (List.range 10).all (fun g => decide (g = 7) || ((gapsB.getD g []).head?.any fun c => !figB c)) = true := by decide
  have h := List.all_eq_true.mp h g (List.mem_range.mpr hg)
  rw [decide_eq_false h7, Bool.false_or] at h
  match e2 : gapsB.getD g [] with
  | [] => rw [e2] at h; exact absurd h (by decide)
  | c' :: s' =>
    rw [e2] at h e
    cases e
    simpa using h
theorem gap_nofig {g : Nat} (hg : g < 10) {r : List UInt8} (hr : startsNoFig r) : startsNoFig (gapsB.getD g [] ++ r) := by
  by_cases h7 : g = 7
  · subst h7; exact hr
  · exact gap_nofig7 hg h7 r
theorem gap_stay {g : Nat} (h1 : 8 ≤ g) (h2 : g < 10) (r : List UInt8) : skipW (gapsB.getD g [] ++ r) = gapsB.getD g [] ++ r := by
  have : g = 8 ∨ g = 9 := by omega
  rcases this with rfl | rfl
  · exact skipW_stop r (by decide) (by decide)
  · exact skipW_stop r (by decide) (by decide)
theorem word_start {wd : Nat} (h : wd < 8) : ∃ c s, wordsB.getD wd [] = c :: s ∧ c ≠ 37 ∧ white (c.toNat : Int) = false ∧ figB c = false := by
  have h0 : (List.range 8).all (fun g => (wordsB.getD g []).head?.any fun c => !figB c && !white (c.toNat : Int) && decide (c ≠ 37)) = true := by decide
  have h0 := List.all_eq_true.mp h0 wd (List.mem_range.mpr h)
  match e2 : wordsB.getD wd [] with
  | [] => rw [e2] at h0; exact absurd h0 (by decide)
  | c :: s =>
    rw [e2] at h0
    simp only [List.head?_cons, Option.any_some, Bool.and_eq_true, Bool.not_eq_true', decide_eq_true_eq] at h0
    exact ⟨c, s, rfl, h0.2, h0.1.2, h0.1.1⟩
theorem word_take {wd bh : Nat} (h1 : wd < 8) (h2 : bh < 7) (r : List UInt8) : (wordsB.getD wd [] ++ (behindB.getD bh [] ++ r)).takeWhile regB = wordsB.getD wd [] := by
  have a : (List.range 8).all (fun g => (wordsB.getD g []).all regB) = true := by decide
  have b : (List.range 7).all (fun g => (behindB.getD g []).head?.any fun c => !regB c) = true := by decide
  have a := List.all_eq_true.mp a wd (List.mem_range.mpr h1)
  have b := List.all_eq_true.mp b bh (List.mem_range.mpr h2)
  refine (takeWhile_split (fun c hc => List.all_eq_true.mp a c hc) ?_).1
  intro c s e
  match e2 : behindB.getD bh [] with
  | [] => rw [e2] at b; exact absurd b (by decide)
  | c' :: s' =>
    rw [e2] at b e
    cases e
    simpa using b
theorem gen_facts {gi : Nat} (h : gi < 3) : (genZ gi).toNat ∈ smallNums ∧ (((genZ gi).toNat : Nat) : Int) = genZ gi := by
  have : gi = 0 ∨ gi = 1 ∨ gi = 2 := by omega
  rcases this with rfl | rfl | rfl <;> exact ⟨by decide, by decide⟩
theorem num_word {wd : Nat} (h : wd < 8) (r : List UInt8) : startsNoFig (wordsB.getD wd [] ++ r) ∧ numOut (wordsB.getD wd [] ++ r) = none ∧ skipW (wordsB.getD wd [] ++ r) = wordsB.getD wd [] ++ r := by
  obtain ⟨c, s, e, h1, h2, h3⟩ := word_start h
  rw [e]
  refine ⟨fun c' s' e' => by cases e'; exact h3, ?_, skipW_stop _ h1 h2⟩
  have e0 : (c :: s ++ r).takeWhile figB = [] := by rw [List.cons_append, List.takeWhile_cons, h3]; rfl
  unfold numOut
  rw [e0]
  exact if_neg fun g => absurd g.1 (Nat.lt_irrefl _)
theorem head_parts (num : Nat) (q : HP) (post : List UInt8) : headOcts num q ++ endB ++ post =
    figOut num q.f0 ++ (gapsB.getD q.g0 [] ++ (figOut (genZ q.gi).toNat q.f1 ++ (gapsB.getD q.g1 [] ++ (wordsB.getD q.wd [] ++ (behindB.getD q.bh [] ++ (endB ++ post)))))) := by
  unfold headOcts; simp only [List.append_assoc]
theorem beq_objW (w : List UInt8) : (w == objW) = decide (w = objW) := by
  by_cases h : w = objW
  · rw [decide_eq_true h]; exact beq_iff_eq.mpr h
  · rw [decide_eq_false h]; exact beq_eq_false_iff_ne.mpr h
theorem gap_skip {g : Nat} (hg : g < 10) {c : UInt8} {s : List UInt8} (h1 : c ≠ 37) (h2 : white (c.toNat : Int) = false) :
    (g < 7 → skipW (gapsB.getD g [] ++ c :: s) = c :: s ∧ (skipW (gapsB.getD g [] ++ c :: s)).length < (gapsB.getD g [] ++ c :: s).length) ∧ (¬ g < 7 → ¬ (skipW (gapsB.getD g [] ++ c :: s)).length < (gapsB.getD g [] ++ c :: s).length) := by
  refine ⟨fun h => ?_, fun h => ?_⟩
  · have e := skip_gap h h1 h2 (s := s)
    refine ⟨e, ?_⟩
    rw [e, List.length_append]
    have := gap_pos h
    omega
  · by_cases h7 : g = 7
    · subst h7
      show ¬ (skipW (c :: s)).length < (c :: s).length
      rw [skipW_stop s h1 h2]
      exact Nat.lt_irrefl _
    · rw [gap_stay (by omega) hg]
      exact Nat.lt_irrefl _
theorem head_law {num : Nat} {q : HP} (hn : num ∈ smallNums) (hq : q.ok) (post : List UInt8) : headOut (headOcts num q ++ endB ++ post) = if headIs q = true then some ((num : Int), genZ q.gi) else none := by
  obtain ⟨hgi, hf0, hf1, hg0, hg1, hwd, hbh⟩ := hq
  obtain ⟨hgn, hgz⟩ := gen_facts hgi
  rw [head_parts]
  generalize hl4 : wordsB.getD q.wd [] ++ (behindB.getD q.bh [] ++ (endB ++ post)) = l4
  have hw := num_word hwd (behindB.getD q.bh [] ++ (endB ++ post))
  have ht := word_take hwd hbh (endB ++ post)
  rw [hl4] at hw ht
  obtain ⟨cw, sw, ew, ew1, ew2, _⟩ := word_start hwd
  have e4 : l4 = cw :: (sw ++ (behindB.getD q.bh [] ++ (endB ++ post))) := by rw [← hl4, ew]; rfl
  obtain ⟨cy, sy, ey, ey1, ey2⟩ := fig_start hgn hf1
  have n2 := num_fig hgn hf1 (gap_nofig hg1 hw.1)
  have s1 := gap_skip hg1 ew1 ew2 (s := sw ++ (behindB.getD q.bh [] ++ (endB ++ post)))
  rw [← e4] at s1
  generalize hl2 : figOut (genZ q.gi).toNat q.f1 ++ (gapsB.getD q.g1 [] ++ l4) = l2 at n2
  have e2 : l2 = cy :: (sy ++ (gapsB.getD q.g1 [] ++ l4)) := by rw [← hl2, ey]; rfl
  have s0 := gap_skip hg0 ey1 ey2 (s := sy ++ (gapsB.getD q.g1 [] ++ l4))
  rw [← e2] at s0
  unfold headIs parted
  rw [beq_objW]
  by_cases h7 : q.g0 = 7
  · have hg07 : ¬ q.g0 < 7 := by omega
    have hr : ∀ X : Option (Int × Int), (if (decide (q.g0 < 7) && decide (q.g1 < 7) && decide (wordsB.getD q.wd [] = objW) && (decide (q.f0 < 4) && decide (q.f1 < 4))) = true then X else none) = none := fun X => by rw [decide_eq_false hg07]; rfl
    rw [hr, h7]
    show headOut (figOut num q.f0 ++ l2) = none
    obtain ⟨a1, _⟩ := fig_facts hn hf0
    obtain ⟨b1, _⟩ := fig_facts hgn hf1
    have hd : (figOut num q.f0 ++ l2).dropWhile figB = gapsB.getD q.g1 [] ++ l4 := by
      rw [← hl2, ← List.append_assoc]
      exact (takeWhile_split (fun c hc => (List.mem_append.mp hc).elim (a1 c) (b1 c)) (gap_nofig hg1 hw.1)).2
    unfold headOut
    rw [hd]
    cases numOut (figOut num q.f0 ++ l2) with
    | none => rfl
    | some z =>
      dsimp only
      by_cases hg17 : q.g1 < 7
      · rw [if_pos (s1.1 hg17).2, (s1.1 hg17).1, hw.2.1]
      · rw [if_neg (s1.2 hg17)]
  · have n1 := num_fig hn hf0 (gap_nofig7 hg0 h7 l2)
    unfold headOut
    rw [n1.1, n1.2]
    by_cases hf04 : q.f0 < 4
    · rw [if_pos hf04]
      dsimp only
      by_cases hg07 : q.g0 < 7
      · rw [if_pos (s0.1 hg07).2, (s0.1 hg07).1, n2.1, n2.2]
        by_cases hf14 : q.f1 < 4
        · rw [if_pos hf14]
          dsimp only
          by_cases hg17 : q.g1 < 7
          · rw [(s1.1 hg17).1, ht, hgz]
            have hlt := (s1.1 hg17).2
            rw [(s1.1 hg17).1] at hlt
            by_cases hwo : wordsB.getD q.wd [] = objW
            · rw [if_pos ⟨hlt, hwo⟩, decide_eq_true hwo]; simp [hf04, hf14, hg07, hg17]
            · rw [if_neg fun g => hwo g.2, decide_eq_false hwo]; simp
          · rw [if_neg fun g => s1.2 hg17 g.1]; simp [hg17]
        · rw [if_neg hf14]; simp [hf14]
      · rw [if_neg (s0.2 hg07)]; simp [hg07]
    · rw [if_neg hf04]; simp [hf04]
theorem meet_law {num : Nat} {q : HP} (hn : num ∈ smallNums) (hq : q.ok) (hp : parted q = true) (post : List UInt8) (n g : Int) : meetOut (headOcts num q ++ endB ++ post) n g = decide ((if headIs q = true then some ((num : Int), genZ q.gi) else none) = some (n, g)) := by
  obtain ⟨hgi, hf0, hf1, hg0, hg1, hwd, hbh⟩ := hq
  obtain ⟨hgn, hgz⟩ := gen_facts hgi
  have hp' := hp
  unfold parted at hp'
  simp only [Bool.and_eq_true, decide_eq_true_eq] at hp'
  obtain ⟨hg07, hg17⟩ := hp'
  rw [head_parts]
  generalize hl4 : wordsB.getD q.wd [] ++ (behindB.getD q.bh [] ++ (endB ++ post)) = l4
  have hw := num_word hwd (behindB.getD q.bh [] ++ (endB ++ post))
  have ht := word_take hwd hbh (endB ++ post)
  rw [hl4] at hw ht
  obtain ⟨cw, sw, ew, ew1, ew2, _⟩ := word_start hwd
  have e4 : l4 = cw :: (sw ++ (behindB.getD q.bh [] ++ (endB ++ post))) := by rw [← hl4, ew]; rfl
  obtain ⟨cy, sy, ey, ey1, ey2⟩ := fig_start hgn hf1
  obtain ⟨cx, sx, ex, ex1, ex2⟩ := fig_start hn hf0
  have n2 := num_fig hgn hf1 (gap_nofig hg1 hw.1)
  have s1 := skip_gap hg17 ew1 ew2 (s := sw ++ (behindB.getD q.bh [] ++ (endB ++ post)))
  rw [← e4] at s1
  generalize hl2 : figOut (genZ q.gi).toNat q.f1 ++ (gapsB.getD q.g1 [] ++ l4) = l2 at n2
  have e2 : l2 = cy :: (sy ++ (gapsB.getD q.g1 [] ++ l4)) := by rw [← hl2, ey]; rfl
  have s0 := skip_gap hg07 ey1 ey2 (s := sy ++ (gapsB.getD q.g1 [] ++ l4))
  rw [← e2] at s0
  have n1 := num_fig hn hf0 (gap_nofig7 hg0 (by omega) l2)
  have k0 : skipW (figOut num q.f0 ++ (gapsB.getD q.g0 [] ++ l2)) = figOut num q.f0 ++ (gapsB.getD q.g0 [] ++ l2) := by
    rw [ex]; exact skipW_stop _ ex1 ex2
  unfold meetOut headIs
  rw [hp, beq_objW, k0]
  dsimp only
  rw [n1.1, n1.2, Bool.true_and]
  by_cases hf04 : q.f0 < 4
  · rw [if_pos hf04, decide_eq_true hf04]
    dsimp only
    by_cases hnn : (num : Int) = n
    · rw [if_pos hnn, s0, n2.1, n2.2]
      by_cases hf14 : q.f1 < 4
      · rw [if_pos hf14, decide_eq_true hf14, hgz]
        dsimp only
        by_cases hgg : genZ q.gi = g
        · rw [if_pos hgg, s1, ht]
          by_cases hwo : wordsB.getD q.wd [] = objW
          · rw [decide_eq_true hwo]; simp [hnn, hgg]
          · rw [decide_eq_false hwo]; simp
        · rw [if_neg hgg]
          by_cases hwo : wordsB.getD q.wd [] = objW
          · rw [decide_eq_true hwo]; simp [hgg]
          · rw [decide_eq_false hwo]; simp
      · rw [if_neg hf14, decide_eq_false hf14]; simp
    · rw [if_neg hnn]
      by_cases hx : (decide (wordsB.getD q.wd [] = objW) && (true && decide (q.f1 < 4))) = true
      · rw [if_pos hx]; simp [hnn]
      · rw [if_neg hx]; simp
  · rw [if_neg hf04, decide_eq_false hf04]; simp
theorem entry_new (w : World) (o g : Int) (t1 t2 t3 : Tok) (news : Led) :
    Ctr w 224 [.str (Str.ofString "used") t1, .int o t2, .int g t3] news (fun r n => ∃ (x dx : Nat) (k : EntK), r = .ref x ∧ n = (x, instObj 224 dx) :: (dx, entD k o g) :: news ∧ dx < x ∧ ∀ p ∈ news, @LT.lt Nat _ p.1 dx) 2 16 := by
  unfold Ctr
  k_fill
  intro dp un gd cn cs a ccd cl outer A₀ base h₀ L m s p loose mean mg mb Q E B F X N T hk hd hu hret
  k_dflt (refine' call_cls ?k1 ?k2 ?k3 ?k4 ?k5 ?k6 ?_; (case k1 => k_asm); (case k2 => k_asm); (case k3 => k_asm); (case k4 => k_is); (case k5 => k_is); (case k6 => k_is); intro x dx h' F' N' l1 l2)
  have l1' := l1
  k_lt2 l2
  walk_at "mine enter"
  k_steps
  rename Fr h₀ L _ _ => F9
  rename News h₀ L _ _ => N9
  exact hret _ _ _ _ F9 N9 ⟨x, dx, ⟨_, _, _, _, _, _, _, _, _⟩, rfl, rfl, l2, l1'⟩

theorem entry_all {P : Value → Led → Prop} {news : Led} {o g : Int} (k : ∀ (x dx : Nat) (k : EntK), dx < x → (∀ p ∈ news, @LT.lt Nat _ p.1 dx) → P (.ref x) ((x, instObj 224 dx) :: (dx, entD k o g) :: news)) :
    ∀ r n, (∃ (x dx : Nat) (k : EntK), r = .ref x ∧ n = (x, instObj 224 dx) :: (dx, entD k o g) :: news ∧ dx < x ∧ ∀ p ∈ news, @LT.lt Nat _ p.1 dx) → P r n := by
  rintro _ _ ⟨x, dx, kk, rfl, rfl, l1, l2⟩
  exact k x dx kk l1 l2
noncomputable def meetB (b : Array UInt8) (o n g : Int) : Bool := if o < (b.size : Int) then meetOut (b.toList.drop o.toNat) n g else false
theorem meets3 (w : World) (b : Array UInt8) (hb : b.size ≤ 16777216) (tb : Tok) (n : Int) (tn : Tok) (o g : Int) (x dx : Nat) (k : EntK) (v : Bool) (news : Led) (hx : (x, instObj 224 dx) ∈ news) (hdx : (dx, entD k o g) ∈ news) (hp : 0 ≤ o) (hv : meetB b o n g = v) :
    Ctr w 235 [.bytes b tb, .int n tn, .ref x] news (fun r n' => r = .bool v ∧ n' = news) 4 32 := by
  subst hv
  unfold meetB
  by_cases h : o < (b.size : Int)
  · rw [if_pos h]
    have e := posOf_drop b hp h
    refine meets_ctr w b hb tb _ (List.drop_suffix o.toNat b.toList) n tn g x dx k news hx (by rw [e]; exact hdx) (by rw [e]; exact hp) (by rw [e]; exact h)
  · rw [if_neg h]
    exact meets_out w b hb tb n tn o g x dx k news hx hdx hp h

theorem rowLed_mem {R : List RowR} {r : RowR} (h : r ∈ R) : (r.a, tupO [.int r.off r.t, headV r, .bool (parted r.q)]) ∈ rowLed R := List.mem_flatMap.mpr ⟨r, h, .head _⟩
theorem rowLed_hd {R : List RowR} {r : RowR} (h : r ∈ R) (hh : headIs r.q = true) : (r.hd, tupO [.int r.num r.tn, .int (genZ r.q.gi) r.tg]) ∈ rowLed R := by
  refine List.mem_flatMap.mpr ⟨r, h, .tail _ ?_⟩
  rw [if_pos hh]
  exact .head _
theorem row_reads {h₀ h : Heap} {L : Addr} {led : Led} {R : List RowR} {r : RowR} (N : News h₀ L h led) (hs : ∀ p ∈ rowLed R, p ∈ led) (hr : r ∈ R) : ∃ d as, Reads h (.ref r.a) d as ∧ d.canLay0 = true ∧ d.depth ≤ 2 := by
  have z := N _ (hs _ (rowLed_mem hr))
  by_cases hh : headIs r.q = true
  · have z2 := N _ (hs _ (rowLed_hd hr hh))
    have r2 : Reads h (.ref r.hd) (.tuple [.int r.num, .int (genZ r.q.gi)]) _ := reads_tuple_at z2.1 rfl rfl (.cons (.int _ _) (.cons (.int _ _) .nil))
    have hv : headV r = .ref r.hd := if_pos hh
    rw [hv] at z
    exact ⟨_, _, reads_tuple_at z.1 rfl rfl (.cons (.int _ _) (.cons r2 (.cons (.bool _) .nil))), by simp [PyData.canLay0, PyData.canLayAll0], by simp [PyData.depth, PyData.depthAll]⟩
  · have hv : headV r = .none := if_neg hh
    rw [hv] at z
    exact ⟨_, _, reads_tuple_at z.1 rfl rfl (.cons (.int _ _) (.cons .none (.cons (.bool _) .nil))), by simp [PyData.canLay0, PyData.canLayAll0], by simp [PyData.depth, PyData.depthAll]⟩
theorem rows_reads {h₀ h : Heap} {L : Addr} {led : Led} {R : List RowR} (N : News h₀ L h led) (hs : ∀ p ∈ rowLed R, p ∈ led) : ∀ (ys : List Value), (∀ y ∈ ys, ∃ r ∈ R, y = .ref r.a) → ∃ ds as, ReadsAll h ys ds as ∧ PyData.canLayAll0 ds = true ∧ PyData.depthAll ds ≤ 2 ∧ (ds = [] ↔ ys = [])
  | [], _ => ⟨[], _, .nil, by simp [PyData.canLayAll0], by simp [PyData.depthAll], by simp⟩
  | y :: ys, h => by
    obtain ⟨r, hr, rfl⟩ := h y (.head _)
    obtain ⟨d, as, h1, h2, h3⟩ := row_reads N hs hr
    obtain ⟨ds, bs, h4, h5, h6, h7⟩ := rows_reads N hs ys fun z hz => h z (.tail _ hz)
    exact ⟨d :: ds, _, .cons h1 h4, by simp [PyData.canLayAll0, h2, h5], by simp only [PyData.depthAll]; omega, by simp⟩
theorem rows_ne {prog : Program} {w : World} {A : Around} {E : Value → Shared → Prop} {s : Shared} {h₀ : Heap} {L D B : Addr} {led : Led} {R : List RowR} {ys : List Value} {Q : Value → Shared → Prop} {k k' : Nat} (N : News h₀ L s.heap led) (hs : ∀ p ∈ rowLed R, p ∈ led) (hy : ∀ y ∈ ys, ∃ r ∈ R, y = .ref r.a)
    (hD : (D, listOf ys.toArray k) ∈ led) (hB : (B, listOf #[] k') ∈ led) (hu : A.units + 64 < cLine) (h : Q (.bool (!decide (ys = []))) s) : wpAny (model prog w) A (compareOp .NotEq (.ref D) (.ref B)) Q E s := by
  obtain ⟨ds, as, h1, h2, h3, h4⟩ := rows_reads N hs ys hy
  refine ne_dataH (reads_list_at (N _ hD).1 rfl rfl (by simpa using h1)) (reads_list_at (N _ hB).1 rfl rfl (xs := []) (by simpa using ReadsAll.nil)) ?_ ?_ hu ?_
  · unfold SeqAt.shaped; rw [PyData.canLay0, h2, Bool.true_and]; refine decide_eq_true ?_; rw [PyData.depth]; omega
  · unfold SeqAt.shaped; rw [PyData.canLay0, PyData.canLayAll0, Bool.true_and]; exact decide_eq_true (by simp [PyData.depth, PyData.depthAll])
  · have e : PyData.eqv (.list ds) (.list []) = decide (ys = []) := by
      cases ds with
      | nil => rw [decide_eq_true (h4.mp rfl)]; simp [PyData.eqv, PyData.eqvAll]
      | cons d ds => rw [decide_eq_false fun q => nomatch h4.mpr q]; simp [PyData.eqv, PyData.eqvAll]
    rw [e]; exact h
theorem rows_ne_nil {prog : Program} {w : World} {A : Around} {E : Value → Shared → Prop} {s : Shared} {h₀ : Heap} {L D B : Addr} {led : Led} {Q : Value → Shared → Prop} {k k' : Nat} (N : News h₀ L s.heap led)
    (hD : (D, listOf #[] k) ∈ led) (hB : (B, listOf #[] k') ∈ led) (hu : A.units + 64 < cLine) (h : Q (.bool false) s) : wpAny (model prog w) A (compareOp .NotEq (.ref D) (.ref B)) Q E s :=
  rows_ne (R := []) (ys := []) N (fun _ h => nomatch h) (fun _ h => nomatch h) hD hB hu (by simpa using h)
theorem rows_ne_cons {prog : Program} {w : World} {A : Around} {E : Value → Shared → Prop} {s : Shared} {h₀ : Heap} {L D B : Addr} {led T : Led} {R : List RowR} {y : Value} {ys : List Value} {Q : Value → Shared → Prop} {k k' : Nat} (N : News h₀ L s.heap led) (hs : ∀ p ∈ rowLed R, p ∈ T) (hT : ∀ p ∈ T, p ∈ led) (hy : ∀ z ∈ y :: ys, ∃ r ∈ R, z = .ref r.a)
    (hD : (D, listOf (y :: ys).toArray k) ∈ led) (hB : (B, listOf #[] k') ∈ led) (hu : A.units + 64 < cLine) (h : Q (.bool true) s) : wpAny (model prog w) A (compareOp .NotEq (.ref D) (.ref B)) Q E s :=
  rows_ne (ys := y :: ys) N (fun p hp => hT p (hs p hp)) hy hD hB hu (by simpa using h)
noncomputable def CutPost (h₀ : Heap) (L : Addr) (s : Shared) (Mid : (Str → Option Value) → Led → Prop) (f : Flow) (s' : Shared) : Prop :=
  f = .next ∧ ∃ h' tk m' nx, s' = { s with heap := h', toks := tk } ∧ Fr h₀ L h' m' ∧ News h₀ L h' nx ∧ Mid m' nx
theorem cut {prog : Program} {w : World} {A : Around} {E : Value → Shared → Prop} {s : Shared} {h₀ : Heap} {L : Addr} {st : Stmt} {env : Env} {Q : Flow → Shared → Prop} {m : Str → Option Value} (_F : Fr h₀ L s.heap m) (Mid : Nat → (Str → Option Value) → Led → Prop)
    (h1 : wpAny (model prog w) A (exec st env) (CutPost h₀ L s (Mid L)) E s) (h2 : ∀ h' tk m' nx, Fr h₀ L h' m' → News h₀ L h' nx → Mid L m' nx → Q .next { s with heap := h', toks := tk }) : wpAny (model prog w) A (exec st env) Q E s :=
  wpAny_mono h1 (fun _ _ ⟨e1, h', tk, m', nx, e2, F, N, hM⟩ => by rw [e1, e2]; exact h2 h' tk m' nx F N hM) fun _ _ e => e
theorem cut2 {prog : Program} {w : World} {A : Around} {E : Value → Shared → Prop} {s : Shared} {h₀ : Heap} {L : Addr} {st : Stmt} {env : Env} {Q : Flow → Shared → Prop} {m : Str → Option Value} (F : Fr h₀ L s.heap m) (Mid : Nat → (Str → Option Value) → Led → Prop)
    (h1 : wpAny (model prog w) A (exec st env) (CutPost h₀ L s (Mid L)) E s) (h2 : ∀ h' tk m' nx, Mid L m' nx → Fr h₀ L h' m' → News h₀ L h' nx → Q .next { s with heap := h', toks := tk }) : wpAny (model prog w) A (exec st env) Q E s :=
  cut F Mid h1 fun h tk m nx F N hM => h2 h tk m nx hM F N
theorem cut_end {s : Shared} {h₀ h' : Heap} {L : Addr} {Mid : (Str → Option Value) → Led → Prop} {m' : Str → Option Value} {led nx : Led} {tk : Nat} (F : Fr h₀ L h' m') (N : News h₀ L h' led) (hs : ∀ p ∈ nx, p ∈ led) (hM : Mid m' nx) :
    CutPost h₀ L s Mid .next { s with heap := h', toks := tk } := ⟨rfl, h', tk, m', nx, rfl, F, news_sub N hs, hM⟩
theorem cut_end0 {s : Shared} {h₀ h' : Heap} {L : Addr} {Mid : (Str → Option Value) → Led → Prop} {m' : Str → Option Value} {nx : Led} {tk : Nat} (F : Fr h₀ L h' m') (N : News h₀ L h' nx) (hM : Mid m' nx) :
    CutPost h₀ L s Mid .next { s with heap := h', toks := tk } := cut_end F N (fun _ h => h) hM
theorem cut_end1 {s : Shared} {h₀ h' : Heap} {L : Addr} {Mid : (Str → Option Value) → Led → Prop} {m' : Str → Option Value} {p1 : Addr × Obj} {nx : Led} {tk : Nat} (F : Fr h₀ L h' m') (N : News h₀ L h' (p1 :: nx)) (hM : Mid m' nx) :
    CutPost h₀ L s Mid .next { s with heap := h', toks := tk } := cut_end F N (fun _ h => .tail _ h) hM
theorem cut_end2 {s : Shared} {h₀ h' : Heap} {L : Addr} {Mid : (Str → Option Value) → Led → Prop} {m' : Str → Option Value} {p1 p2 : Addr × Obj} {nx : Led} {tk : Nat} (F : Fr h₀ L h' m') (N : News h₀ L h' (p1 :: p2 :: nx)) (hM : Mid m' nx) :
    CutPost h₀ L s Mid .next { s with heap := h', toks := tk } := cut_end F N (fun _ h => .tail _ (.tail _ h)) hM
theorem item_any {prog : Program} {w : World} {A : Around} {E : Value → Shared → Prop} {s : Shared} {value slice : PySem.Expr} {h₀ : Heap} {L l : Addr} {led : Led} {vs : List Value} {k : Int} {n : Nat} {u : Tok} {v : Value} {Q : Value → Shared → Prop} (N : News h₀ L s.heap led) (hl : (l, listOf vs.toArray n) ∈ led)
    (h0 : 0 ≤ k) (hfit : k < 2 ^ 63) (hv : vs[k.toNat]? = some v) (h : Q v s)
    (hs : subscripted slice false (.ref l) (.int k u) = operate [.ref l, .int k u] (getItem (.ref l) (.int k u)) := by with_unfolding_all rfl) :
    wpAny (model prog w) A (subscriptTail value slice (.ref l) (.int k u)) Q E s :=
  item_listR ⟨_, (N _ hl).1, rfl, n, rfl⟩ h0 hfit (by simpa using hv) h hs
theorem len_rows {prog : Program} {w : World} {A : Around} {E : Value → Shared → Prop} {s : Shared} {h₀ : Heap} {L l : Addr} {led : Led} {R : List RowR} {n : Nat} {Q : Value → Shared → Prop} (N : News h₀ L s.heap led) (hl : (l, listOf (R.map fun r => Value.ref r.a).toArray n) ∈ led) (h5 : R.length ≤ 5)
    (h : Q (.int (R.length : Int) (s.toks + 1)) { s with toks := s.toks + 1 + 1 }) : wpAny (model prog w) A (call (.builtin "len") [.ref l]) Q E s := by
  refine call_len_list ⟨_, (N _ hl).1, rfl, n, rfl⟩ ?_ ?_
  · rw [List.size_toArray, List.length_map]; omega
  · rw [List.size_toArray, List.length_map]; exact h
theorem row_pick {R : List RowR} (i : Nat) (h0 : 0 < R.length) (h5 : R.length ≤ 5) : ∃ r ∈ R, 0 ≤ Int.fmod (i : Int) (R.length : Int) ∧ Int.fmod (i : Int) (R.length : Int) < 2 ^ 63 ∧ (R.map fun r => Value.ref r.a)[(Int.fmod (i : Int) (R.length : Int)).toNat]? = some (.ref r.a) := by
  have h1 : 0 ≤ Int.fmod (i : Int) (R.length : Int) := Int.fmod_nonneg_of_pos _ (by omega)
  have h2 : Int.fmod (i : Int) (R.length : Int) < (R.length : Int) := Int.fmod_lt_of_pos _ (by omega)
  have h3 : (Int.fmod (i : Int) (R.length : Int)).toNat < R.length := by omega
  refine ⟨R[(Int.fmod (i : Int) (R.length : Int)).toNat], List.getElem_mem h3, h1, by omega, ?_⟩
  rw [List.getElem?_map, List.getElem?_eq_getElem h3]; rfl
theorem row_pick_all {P : Prop} {R : List RowR} (i : Nat) (h0 : 0 < R.length) (h5 : R.length ≤ 5) (k : ∀ r, r ∈ R → 0 ≤ Int.fmod (i : Int) (R.length : Int) → Int.fmod (i : Int) (R.length : Int) < 2 ^ 63 → (R.map fun r => Value.ref r.a)[(Int.fmod (i : Int) (R.length : Int)).toNat]? = some (.ref r.a) → P) : P := by
  obtain ⟨r, h1, h2, h3, h4⟩ := row_pick i h0 h5
  exact k r h1 h2 h3 h4
noncomputable def dueDat (p : Int × Str) : Dat := .tuple [.str (Str.ofString "entry"), .int p.1, .str p.2]

noncomputable def HeadSt (b : Array UInt8) (o : Int) (hv : Value) (par : Bool) (led : Led) : Prop :=
  0 ≤ o ∧ ((hv = .none ∧ headB b o = none) ∨ (∃ (hd : Nat) (i j : Int) (t u : Nat), hv = .ref hd ∧ (hd, tupO [.int i t, .int j u]) ∈ led ∧ headB b o = some (i, j))) ∧ (par = true → ∀ n g, meetB b o n g = decide (headB b o = some (n, g)))
theorem far_st {b : Array UInt8} {i : Nat} {led : Led} : HeadSt b ((b.size : Int) + (i : Int)) .none true led := by
  refine ⟨by omega, .inl ⟨rfl, ?_⟩, fun _ n g => ?_⟩
  · unfold headB; rw [if_neg]; omega
  · unfold meetB headB; rw [if_neg (by omega), if_neg (by omega)]; rfl
noncomputable def BasePins (tp rl en dl : Nat) (b : Array UInt8) (tb : Tok) : List (Str × Value) := [(Str.ofString "tape", .ref tp), (Str.ofString "data", .bytes b tb), (Str.ofString "rows", .ref rl), (Str.ofString "entries", .ref en), (Str.ofString "due", .ref dl)]
noncomputable def MidA (R : List RowR) (tp rl en dl cl : Nat) (sd : Int) (b : Array UInt8) (T : Led) (od : Obj) (vs : List Value) (nd i : Nat) (t : Tok) (m : Str → Option Value) (nx : Led) : Prop :=
  ∃ (r : RowR) (oc : Obj) (wy d c : Int) (tw tb t1 t2 t3 n : Nat), r ∈ R ∧ 0 ≤ wy ∧ wy < 4 ∧ 0 ≤ d ∧ 0 ≤ c ∧ c ≤ 200 + 5 * i + 1 ∧ oc.data = .cell (some (.int (i : Int) t)) ∧
    Pins (BasePins tp rl en dl b tb ++ [(Str.ofString "way", .int wy tw), (Str.ofString "offset", .int r.off r.t), (Str.ofString "head", headV r), (Str.ofString "is_parted", .bool (parted r.q))]) m ∧
    nx = (tp, tapeO d sd c t1 t2 t3 n) :: (en, od) :: (dl, listOf vs.toArray nd) :: (cl, oc) :: T
noncomputable def MidB (R : List RowR) (tp rl en dl cl : Nat) (sd : Int) (b : Array UInt8) (T : Led) (od : Obj) (vs : List Value) (nd i : Nat) (t : Tok) (m : Str → Option Value) (nx : Led) : Prop :=
  ∃ (r : RowR) (oc : Obj) (wy d c g : Int) (tw tb tg t1 t2 t3 n : Nat), r ∈ R ∧ 0 ≤ wy ∧ wy < 4 ∧ 0 ≤ d ∧ 0 ≤ c ∧ c ≤ 200 + 5 * i + 3 ∧ oc.data = .cell (some (.int (i : Int) t)) ∧
    Pins (BasePins tp rl en dl b tb ++ [(Str.ofString "way", .int wy tw), (Str.ofString "offset", .int r.off r.t), (Str.ofString "head", headV r), (Str.ofString "is_parted", .bool (parted r.q)), (Str.ofString "generation", .int g tg)]) m ∧
    nx = (tp, tapeO d sd c t1 t2 t3 n) :: (en, od) :: (dl, listOf vs.toArray nd) :: (cl, oc) :: T
noncomputable def MidC (tp rl en dl cl : Nat) (sd : Int) (b : Array UInt8) (T : Led) (od : Obj) (vs : List Value) (nd i : Nat) (t : Tok) (m : Str → Option Value) (nx : Led) : Prop :=
  ∃ (oc : Obj) (wy d c g o : Int) (hv : Value) (pa : Bool) (tw tb tg to t1 t2 t3 n : Nat), HeadSt b o hv pa T ∧ 0 ≤ wy ∧ wy < 4 ∧ 0 ≤ d ∧ 0 ≤ c ∧ c ≤ 200 + 5 * i + 3 ∧ oc.data = .cell (some (.int (i : Int) t)) ∧
    Pins (BasePins tp rl en dl b tb ++ [(Str.ofString "way", .int wy tw), (Str.ofString "offset", .int o to), (Str.ofString "head", hv), (Str.ofString "is_parted", .bool pa), (Str.ofString "generation", .int g tg)]) m ∧
    nx = (tp, tapeO d sd c t1 t2 t3 n) :: (en, od) :: (dl, listOf vs.toArray nd) :: (cl, oc) :: T
theorem MidA.all {P : (Str → Option Value) → Led → Prop} {R : List RowR} {tp rl en dl cl : Nat} {sd : Int} {b : Array UInt8} {T : Led} {od : Obj} {vs : List Value} {nd i : Nat} {t : Tok}
    (k : ∀ (m : Str → Option Value) (r : RowR) (oc : Obj) (wy d c : Int) (tw tb t1 t2 t3 n : Nat), r ∈ R → 0 ≤ wy → wy < 4 → 0 ≤ d → 0 ≤ c → c ≤ 200 + 5 * i + 1 → oc.data = .cell (some (.int (i : Int) t)) → Pins (BasePins tp rl en dl b tb ++ [(Str.ofString "way", .int wy tw), (Str.ofString "offset", .int r.off r.t), (Str.ofString "head", headV r), (Str.ofString "is_parted", .bool (parted r.q))]) m → P m ((tp, tapeO d sd c t1 t2 t3 n) :: (en, od) :: (dl, listOf vs.toArray nd) :: (cl, oc) :: T)) :
    ∀ m nx, MidA R tp rl en dl cl sd b T od vs nd i t m nx → P m nx := by
  rintro m _ ⟨r, oc, wy, d, c, tw, tb, t1, t2, t3, n, hr, w1, w2, w3, w4, w5, hc, hm, rfl⟩
  exact k m r oc wy d c tw tb t1 t2 t3 n hr w1 w2 w3 w4 w5 hc hm
theorem MidB.all {P : (Str → Option Value) → Led → Prop} {R : List RowR} {tp rl en dl cl : Nat} {sd : Int} {b : Array UInt8} {T : Led} {od : Obj} {vs : List Value} {nd i : Nat} {t : Tok}
    (k : ∀ (m : Str → Option Value) (r : RowR) (oc : Obj) (wy d c g : Int) (tw tb tg t1 t2 t3 n : Nat), r ∈ R → 0 ≤ wy → wy < 4 → 0 ≤ d → 0 ≤ c → c ≤ 200 + 5 * i + 3 → oc.data = .cell (some (.int (i : Int) t)) → Pins (BasePins tp rl en dl b tb ++ [(Str.ofString "way", .int wy tw), (Str.ofString "offset", .int r.off r.t), (Str.ofString "head", headV r), (Str.ofString "is_parted", .bool (parted r.q)), (Str.ofString "generation", .int g tg)]) m → P m ((tp, tapeO d sd c t1 t2 t3 n) :: (en, od) :: (dl, listOf vs.toArray nd) :: (cl, oc) :: T)) :
    ∀ m nx, MidB R tp rl en dl cl sd b T od vs nd i t m nx → P m nx := by
  rintro m _ ⟨r, oc, wy, d, c, g, tw, tb, tg, t1, t2, t3, n, hr, w1, w2, w3, w4, w5, hc, hm, rfl⟩
  exact k m r oc wy d c g tw tb tg t1 t2 t3 n hr w1 w2 w3 w4 w5 hc hm
theorem MidC.all {P : (Str → Option Value) → Led → Prop} {tp rl en dl cl : Nat} {sd : Int} {b : Array UInt8} {T : Led} {od : Obj} {vs : List Value} {nd i : Nat} {t : Tok}
    (k : ∀ (m : Str → Option Value) (oc : Obj) (wy d c g o : Int) (hv : Value) (pa : Bool) (tw tb tg to t1 t2 t3 n : Nat), HeadSt b o hv pa T → 0 ≤ wy → wy < 4 → 0 ≤ d → 0 ≤ c → c ≤ 200 + 5 * i + 3 → oc.data = .cell (some (.int (i : Int) t)) → Pins (BasePins tp rl en dl b tb ++ [(Str.ofString "way", .int wy tw), (Str.ofString "offset", .int o to), (Str.ofString "head", hv), (Str.ofString "is_parted", .bool pa), (Str.ofString "generation", .int g tg)]) m → P m ((tp, tapeO d sd c t1 t2 t3 n) :: (en, od) :: (dl, listOf vs.toArray nd) :: (cl, oc) :: T)) :
    ∀ m nx, MidC tp rl en dl cl sd b T od vs nd i t m nx → P m nx := by
  rintro m _ ⟨oc, wy, d, c, g, o, hv, pa, tw, tb, tg, to, t1, t2, t3, n, hs, w1, w2, w3, w4, w5, hc, hm, rfl⟩
  exact k m oc wy d c g o hv pa tw tb tg to t1 t2 t3 n hs w1 w2 w3 w4 w5 hc hm
theorem row_st {b : Array UInt8} {R : List RowR} {r : RowR} {T : Led} (h : RowAt b r) (hr : r ∈ R) (hT : ∀ p ∈ rowLed R, p ∈ T) : HeadSt b r.off (headV r) (parted r.q) T := by
  obtain ⟨pre, post, e, ho, hq, hn⟩ := h
  have hd : b.toList.drop r.off.toNat = headOcts r.num r.q ++ endB ++ post := by
    rw [ho, Int.toNat_natCast, e, List.drop_left]
  have hlt : r.off < (b.size : Int) := by
    have h1 := congrArg List.length e
    simp only [List.length_append, Array.length_toList, endB, List.length_cons, List.length_nil] at h1
    omega
  have h0 : 0 ≤ r.off := by omega
  have hB : headB b r.off = if headIs r.q = true then some ((r.num : Int), genZ r.q.gi) else none := by
    unfold headB; rw [if_pos ⟨h0, hlt⟩, hd, head_law hn hq]
  refine ⟨h0, ?_, fun hp n g => ?_⟩
  · by_cases hh : headIs r.q = true
    · exact .inr ⟨r.hd, _, _, r.tn, r.tg, if_pos hh, hT _ (rowLed_hd hr hh), by rw [hB, if_pos hh]⟩
    · exact .inl ⟨if_neg hh, by rw [hB, if_neg hh]⟩
  · unfold meetB; rw [if_pos hlt, hd, hB]; exact meet_law hn hq hp post n g
section
variable {prog : Program} {w : World} {A : Around} {E : Value → Shared → Prop} {s : Shared} {h₀ : Heap} {L c : Addr} {news : Led} {k l : Int} {t3 t4 : Tok} {Q : Value → Shared → Prop}
theorem ne_none (N : News h₀ L s.heap news) (hc : (c, tupO [.int k t3, .int l t4]) ∈ news) (hu : A.units + 64 < cLine) (h : Q (.bool true) s) : wpAny (model prog w) A (compareOp .NotEq .none (.ref c)) Q E s :=
  ne_dataH .none (reads_pair N hc) rfl rfl hu (by simpa [PyData.eqv] using h)
theorem eq_none (N : News h₀ L s.heap news) (hc : (c, tupO [.int k t3, .int l t4]) ∈ news) (hu : A.units + 64 < cLine) (h : Q (.bool false) s) : wpAny (model prog w) A (compareOp .Eq .none (.ref c)) Q E s :=
  eq_dataH .none (reads_pair N hc) rfl rfl hu (by simpa [PyData.eqv] using h)
end
theorem valueAt_snoc : ∀ {kvs : List (Int × Value)} {k : Int} {v : Value}, (∀ p ∈ kvs, p.1 < k) → valueAt kvs k = none ∧ valueAt (kvs ++ [(k, v)]) k = some v
  | [], k, v, _ => by simp [valueAt]
  | p :: r, k, v, h => by
    have ih := valueAt_snoc (kvs := r) (k := k) (v := v) fun q hq => h q (.tail _ hq)
    have hne : ¬ p.1 = k := Int.ne_of_lt (h p (.head _))
    unfold valueAt at ih ⊢
    rw [List.cons_append, List.find?_cons, List.find?_cons]
    simp only [hne, decide_false]
    exact ih
theorem ent_set {prog : Program} {w : World} {A : Around} {E' : Value → Shared → Prop} {s : Shared} {h₀ : Heap} {L en : Addr} {m : Str → Option Value} {news : Led} {g : Obj → Led} {od : Obj} {E : List EntR} {i : Nat} {t : Tok} {v : Value} {Q : Unit → Shared → Prop}
    (F : Fr h₀ L s.heap m) (N : News h₀ L s.heap news) (U : UpdF en od news g) (hd : od.IsDictOf (intKind prog w) (entKvs E)) (hl : ∀ e ∈ E, e.num < (i : Int) ∧ 0 ≤ e.o) (hz : E.length ≤ sizeLine)
    (h : ∀ h' o', Fr h₀ L h' m → News h₀ L h' (g o') → o'.IsDictOf (intKind prog w) (entKvs E ++ [((i : Int), v)]) → valueAt (entKvs E ++ [((i : Int), v)]) (i : Int) = some v → Q () { s with heap := h', toks := s.toks + 1 }) :
    wpAny (model prog w) A (setItem (.ref en) (.int (i : Int) t) v) Q E' s := by
  have hp : ∀ p ∈ entKvs E, p.1 < (i : Int) := by
    intro p hp
    obtain ⟨e, he, rfl⟩ := List.mem_map.mp hp
    exact (hl e he).1
  have hv := valueAt_snoc (v := v) hp
  refine kda_set F N U hd (intKind_is _ _ _ _) (by unfold entKvs; rw [List.length_map]; exact hz) fun h' o' F' N' hd' => ?_
  rw [stored_absent hv.1] at hd'
  exact h h' o' F' N' hd' hv.2
noncomputable def LoopTwo (w : World) (tp rl en dl cl : Nat) (sd : Int) (b : Array UInt8) (base : Led) (i : Nat) (m : Str → Option Value) (nx : Led) : Prop :=
  ∃ (E : List EntR) (vs : List Value) (P : Led) (od oc : Obj) (cv : Option Value) (d c : Int) (tb t1 t2 t3 n nd : Nat),
    Pins [(Str.ofString "tape", .ref tp), (Str.ofString "data", .bytes b tb), (Str.ofString "rows", .ref rl), (Str.ofString "entries", .ref en), (Str.ofString "due", .ref dl)] m ∧
    0 ≤ d ∧ 0 ≤ c ∧ c ≤ 200 + 5 * i ∧ od.IsDictOf (intKind PySem.Challenge.rw_qd0124_01.row.prog w) (entKvs E) ∧ (E.map (·.num)).Pairwise (· < ·) ∧ (∀ e ∈ E, e.num < (i : Int) ∧ 0 ≤ e.o) ∧ E.length ≤ i ∧ vs.length ≤ i ∧
    DatAll P vs ((E.filterMap (verdict b)).map dueDat) ∧ (∀ p ∈ entLed E, p ∈ P) ∧ (∀ p ∈ base, p ∈ P) ∧ oc.data = .cell cv ∧
    nx = (tp, tapeO d sd c t1 t2 t3 n) :: (en, od) :: (dl, listOf vs.toArray nd) :: (cl, oc) :: P ∧ (∀ p ∈ P, p.1 ≠ tp ∧ p.1 ≠ en ∧ p.1 ≠ dl ∧ p.1 ≠ cl)
theorem LoopTwo.all {Q : (Str → Option Value) → Led → Prop} {w : World} {tp rl en dl cl : Nat} {sd : Int} {b : Array UInt8} {base : Led} {i : Nat}
    (k : ∀ (m : Str → Option Value) (E : List EntR) (vs : List Value) (P : Led) (od oc : Obj) (cv : Option Value) (d c : Int) (tb t1 t2 t3 n nd : Nat),
      Pins [(Str.ofString "tape", .ref tp), (Str.ofString "data", .bytes b tb), (Str.ofString "rows", .ref rl), (Str.ofString "entries", .ref en), (Str.ofString "due", .ref dl)] m →
      0 ≤ d → 0 ≤ c → c ≤ 200 + 5 * i → od.IsDictOf (intKind PySem.Challenge.rw_qd0124_01.row.prog w) (entKvs E) → (E.map (·.num)).Pairwise (· < ·) → (∀ e ∈ E, e.num < (i : Int) ∧ 0 ≤ e.o) → E.length ≤ i → vs.length ≤ i →
      DatAll P vs ((E.filterMap (verdict b)).map dueDat) → (∀ p ∈ entLed E, p ∈ P) → (∀ p ∈ base, p ∈ P) → oc.data = .cell cv → (∀ p ∈ P, p.1 ≠ tp ∧ p.1 ≠ en ∧ p.1 ≠ dl ∧ p.1 ≠ cl) →
      Q m ((tp, tapeO d sd c t1 t2 t3 n) :: (en, od) :: (dl, listOf vs.toArray nd) :: (cl, oc) :: P)) :
    ∀ m nx, LoopTwo w tp rl en dl cl sd b base i m nx → Q m nx := by
  rintro m _ ⟨E, vs, P, od, oc, cv, d, c, tb, t1, t2, t3, n, nd, hm, g1, g2, g3, hod, hasc, hE, hEl, hvl, hdat, hEP, hbP, hcell, rfl, hne⟩
  exact k m E vs P od oc cv d c tb t1 t2 t3 n nd hm g1 g2 g3 hod hasc hE hEl hvl hdat hEP hbP hcell hne
section
open LCg LCt
variable {prog : Program} {w : World} {A : Around} {E : Value → Shared → Prop} {s : Shared} {h₀ : Heap} {L : Addr} {m : Str → Option Value} {env : Env}
theorem comp_invT {ct elt : PySem.Expr} {x : Str} {scope : Scope} {cl : List (Str × Addr)} {S : Led → Prop} {P : Nat → Value → Prop} {Fin : List Value → Led → Prop} (J : Nat → List Value → Led → Prop)
    (el : ∀ i ys led v I oI C oC D m₂ h tk (E' : Value → Shared → Prop) (Nx : List Value → Led → Prop), J i ys led → P i v → NsObj oC m₂ → m₂ x = some v → Fr h₀ L h m → News h₀ L h ((I, oI) :: (C, oC) :: (D, lst ys) :: led) → Off3 I C D led → ((@Ne Nat I C) ∧ (@Ne Nat I D) ∧ (@Ne Nat C D)) →
      (∀ ys' led', J (i + 1) ys' led' → Nx ys' led') →
      wpAny (model prog w) A (isTrue ct (compEnvC scope cl C env) (eval ct (compEnvC scope cl C env))) (fun ok s' => if ok = true then
        wpAny (model prog w) A (eval elt (compEnvC scope cl C env)) (CompEnd h₀ L m { s with heap := h, toks := tk } I oI C oC D (lst ys) S (fun y news' => Nx (ys ++ [y]) news')) E' s'
        else CompEnd h₀ L m { s with heap := h, toks := tk } I oI C oC D (lst ys) S (fun _ news' => Nx ys news') Value.none s') E' { s with heap := h, toks := tk }) :
    ∀ (n i : Nat) (ys : List Value) (led : Led), J i ys led → (∀ ys l, J (i + n) ys l → Fin ys l) → CompRestT prog w A h₀ L m env ct elt x scope cl s S P Fin n i ys led
  | 0, i, ys, led, j, fin => CompRestT.zero (fin ys led j)
  | n + 1, i, ys, led, j, fin => by
    refine CompRestT.succ fun v I oI C oC D m₂ h tk E' hP hN hx F N off ne => ?_
    exact el i ys led v I oI C oC D m₂ h tk E' _ j hP hN hx F N off ne fun ys' led' j' => comp_invT J el n (i + 1) ys' led' j' fun ys'' l j'' => fin ys'' l (by rwa [show i + (n + 1) = i + 1 + n from by omega])
end
theorem rows_at {R : List RowR} {i : Nat} {v : Value} (h : (R.map fun r => Value.ref r.a).toArray[i]? = some v) : ∃ r ∈ R, v = .ref r.a := by
  rw [List.getElem?_toArray, List.getElem?_map] at h
  cases e : R[i]? with
  | none => rw [e] at h; cases h
  | some r => rw [e] at h; exact ⟨r, List.mem_of_getElem? e, (Option.some.inj h).symm⟩
noncomputable def RowsIn (R : List RowR) (l0 : Led) (_ : Nat) (ys : List Value) (l : Led) : Prop := l = l0 ∧ ∀ y ∈ ys, ∃ r ∈ R, y = Value.ref r.a
theorem RowsIn.snoc {R : List RowR} {l0 l : Led} {i : Nat} {ys : List Value} {r : RowR} (h : RowsIn R l0 i ys l) (hr : r ∈ R) : RowsIn R l0 (i + 1) (ys ++ [.ref r.a]) l :=
  ⟨h.1, fun y hy => (List.mem_append.mp hy).elim (h.2 y) fun h => ⟨r, hr, List.mem_singleton.mp h⟩⟩
theorem two_end {w : World} {h₀ h' : Heap} {L : Addr} {tp rl en dl cl : Nat} {sd d c : Int} {b : Array UInt8} {tb t1 t2 t3 n nd i tk : Nat} {base own P : Led} {m' : Str → Option Value} {s₁ : Shared} {o1 o2 o3 o4 od oc : Obj} {cv : Option Value} {E : List EntR} {vs : List Value}
    (F : Fr h₀ L h' m') {led X9 : Led} (N : News h₀ L h' led) (sub : ∀ p ∈ (tp, tapeO d sd c t1 t2 t3 n) :: (en, od) :: (dl, listOf vs.toArray nd) :: (cl, oc) :: (X9 ++ (P ++ own)), p ∈ led)
    (hX : ∀ p ∈ X9, (∀ q ∈ P ++ own, @LT.lt Nat _ q.1 p.1) ∧ @LT.lt Nat _ tp p.1 ∧ @LT.lt Nat _ en p.1 ∧ @LT.lt Nat _ dl p.1 ∧ @LT.lt Nat _ cl p.1) (hpin : Pins (BasePins tp rl en dl b tb) m') (hne : ∀ p ∈ P, p.1 ≠ tp ∧ p.1 ≠ en ∧ p.1 ≠ dl ∧ p.1 ≠ cl) (hoff : TbOff own ((tp, o1) :: (en, o2) :: (dl, o3) :: (cl, o4) :: P)) (g1 : 0 ≤ d) (g2 : 0 ≤ c) (g3 : c ≤ 200 + 5 * i + 3)
    (hod : od.IsDictOf (intKind PySem.Challenge.rw_qd0124_01.row.prog w) (entKvs E)) (hasc : (E.map (·.num)).Pairwise (· < ·)) (hE : ∀ e ∈ E, e.num < ((i + 1 : Nat) : Int) ∧ 0 ≤ e.o) (hEl : E.length ≤ i + 1) (hvl : vs.length ≤ i + 1)
    (hdat : DatAll (X9 ++ P) vs ((E.filterMap (verdict b)).map dueDat)) (hEP : ∀ p ∈ entLed E, p ∈ X9 ++ P) (hbP : ∀ p ∈ base, p ∈ P) (hcell : oc.data = .cell cv) :
    GrowPost h₀ L (LoopTwo w tp rl en dl cl sd b base (i + 1)) own s₁ .next { s₁ with heap := h', toks := tk } := by
  refine ⟨rfl, h', tk, m', led, (tp, tapeO d sd c t1 t2 t3 n) :: (en, od) :: (dl, listOf vs.toArray nd) :: (cl, oc) :: (X9 ++ P), rfl, F, N, ?_, ?_, ?_,
    E, vs, X9 ++ P, od, oc, cv, d, c, tb, t1, t2, t3, n, nd, hpin, g1, g2, by omega, hod, hasc, hE, hEl, hvl, hdat, hEP, fun p hp => List.mem_append_right _ (hbP p hp), hcell, rfl, ?_⟩
  · intro p hp
    refine sub p ?_
    rcases List.mem_cons.mp hp with rfl | hp
    · exact .head _
    · rcases List.mem_cons.mp hp with rfl | hp
      · exact .tail _ (.head _)
      · rcases List.mem_cons.mp hp with rfl | hp
        · exact .tail _ (.tail _ (.head _))
        · rcases List.mem_cons.mp hp with rfl | hp
          · exact .tail _ (.tail _ (.tail _ (.head _)))
          · refine .tail _ (.tail _ (.tail _ (.tail _ ?_)))
            rcases List.mem_append.mp hp with hp | hp
            · exact List.mem_append_left _ hp
            · exact List.mem_append_right _ (List.mem_append_left _ hp)
  · exact fun p hp => sub p (.tail _ (.tail _ (.tail _ (.tail _ (List.mem_append_right _ (List.mem_append_right _ hp))))))
  · intro p hp q hq
    rcases List.mem_cons.mp hq with rfl | hq
    · exact hoff p hp (tp, o1) (.head _)
    · rcases List.mem_cons.mp hq with rfl | hq
      · exact hoff p hp (en, o2) (.tail _ (.head _))
      · rcases List.mem_cons.mp hq with rfl | hq
        · exact hoff p hp (dl, o3) (.tail _ (.tail _ (.head _)))
        · rcases List.mem_cons.mp hq with rfl | hq
          · exact hoff p hp (cl, o4) (.tail _ (.tail _ (.tail _ (.head _))))
          · rcases List.mem_append.mp hq with hq | hq
            · exact Nat.ne_of_lt ((hX q hq).1 p (List.mem_append_right _ hp))
            · exact hoff p hp q (.tail _ (.tail _ (.tail _ (.tail _ hq))))
  · intro p hp
    rcases List.mem_append.mp hp with hp | hp
    · exact ⟨Nat.ne_of_gt (hX p hp).2.1, Nat.ne_of_gt (hX p hp).2.2.1, Nat.ne_of_gt (hX p hp).2.2.2.1, Nat.ne_of_gt (hX p hp).2.2.2.2⟩
    · exact hne p hp
theorem two_same {w : World} {h₀ h' : Heap} {L : Addr} {tp rl en dl cl : Nat} {sd d c : Int} {b : Array UInt8} {tb t1 t2 t3 n nd i tk : Nat} {base own P : Led} {m' : Str → Option Value} {s₁ : Shared} {o1 o2 o3 o4 od oc : Obj} {cv : Option Value} {E : List EntR} {vs : List Value}
    (F : Fr h₀ L h' m') (N : News h₀ L h' ((tp, tapeO d sd c t1 t2 t3 n) :: (en, od) :: (dl, listOf vs.toArray nd) :: (cl, oc) :: (P ++ own)))
    (hpin : Pins (BasePins tp rl en dl b tb) m') (hne : ∀ p ∈ P, p.1 ≠ tp ∧ p.1 ≠ en ∧ p.1 ≠ dl ∧ p.1 ≠ cl) (hoff : TbOff own ((tp, o1) :: (en, o2) :: (dl, o3) :: (cl, o4) :: P)) (g1 : 0 ≤ d) (g2 : 0 ≤ c) (g3 : c ≤ 200 + 5 * i + 3)
    (hod : od.IsDictOf (intKind PySem.Challenge.rw_qd0124_01.row.prog w) (entKvs E)) (hasc : (E.map (·.num)).Pairwise (· < ·)) (hE : ∀ e ∈ E, e.num < (i : Int) ∧ 0 ≤ e.o) (hEl : E.length ≤ i) (hvl : vs.length ≤ i)
    (hdat : DatAll P vs ((E.filterMap (verdict b)).map dueDat)) (hEP : ∀ p ∈ entLed E, p ∈ P) (hbP : ∀ p ∈ base, p ∈ P) (hcell : oc.data = .cell cv) :
    GrowPost h₀ L (LoopTwo w tp rl en dl cl sd b base (i + 1)) own s₁ .next { s₁ with heap := h', toks := tk } := by
  exact two_end (X9 := []) F N (fun p hp => hp) (fun _ h => nomatch h) hpin hne hoff g1 g2 g3 hod hasc (fun e he => ⟨by have := (hE e he).1; omega, (hE e he).2⟩) (by omega) (by omega) hdat hEP hbP hcell
theorem entLed_snoc (E : List EntR) (e : EntR) : entLed (E ++ [e]) = entLed E ++ [(e.x, instObj 224 e.dx), (e.dx, entD e.k e.o e.g)] := by
  unfold entLed; rw [List.flatMap_append]; rfl
theorem asc_snoc {E : List EntR} {i : Nat} {e : EntR} (he : e.num = (i : Int)) (hasc : (E.map (·.num)).Pairwise (· < ·)) (hE : ∀ e ∈ E, e.num < (i : Int) ∧ 0 ≤ e.o) : ((E ++ [e]).map (·.num)).Pairwise (· < ·) := by
  rw [List.map_append, List.pairwise_append]
  refine ⟨hasc, List.pairwise_singleton _ _, ?_⟩
  intro a ha c hc
  obtain ⟨e', he', rfl⟩ := List.mem_map.mp ha
  rw [List.mem_singleton.mp hc]
  show e'.num < e.num
  rw [he]
  exact (hE e' he').1
theorem two_eq {w : World} {h₀ h' : Heap} {L : Addr} {tp rl en dl cl : Nat} {sd d c : Int} {b : Array UInt8} {tb t1 t2 t3 n nd i tk : Nat} {base own P : Led} {m' : Str → Option Value} {s₁ : Shared} {o1 o2 o3 o4 od oc : Obj} {cv : Option Value} {E : List EntR} {vs : List Value}
    (F : Fr h₀ L h' m') {Y x dx : Nat} {oY : Obj} {k : EntK} {o g : Int} (N : News h₀ L h' ((Y, oY) :: (x, instObj 224 dx) :: (dx, entD k o g) :: (tp, tapeO d sd c t1 t2 t3 n) :: (en, od) :: (dl, listOf vs.toArray nd) :: (cl, oc) :: (P ++ own)))
    (hpin : Pins (BasePins tp rl en dl b tb) m') (hne : ∀ p ∈ P, p.1 ≠ tp ∧ p.1 ≠ en ∧ p.1 ≠ dl ∧ p.1 ≠ cl) (hoff : TbOff own ((tp, o1) :: (en, o2) :: (dl, o3) :: (cl, o4) :: P)) (g1 : 0 ≤ d) (g2 : 0 ≤ c) (g3 : c ≤ 200 + 5 * i + 3)
    (hod : od.IsDictOf (intKind PySem.Challenge.rw_qd0124_01.row.prog w) (entKvs E ++ [((i : Int), .ref x)])) (hasc : (E.map (·.num)).Pairwise (· < ·)) (hE : ∀ e ∈ E, e.num < (i : Int) ∧ 0 ≤ e.o) (hEl : E.length ≤ i) (hvl : vs.length ≤ i)
    (hdat : DatAll P vs ((E.filterMap (verdict b)).map dueDat)) (hEP : ∀ p ∈ entLed E, p ∈ P) (hbP : ∀ p ∈ base, p ∈ P) (hcell : oc.data = .cell cv)
    (ho : 0 ≤ o) (lx : dx < x) (ld : ∀ p ∈ (tp, tapeO d sd c t1 t2 t3 n) :: (en, o2) :: (dl, o3) :: (cl, oc) :: (P ++ own), @LT.lt Nat _ p.1 dx) (hv : verdict b ⟨(i : Int), x, dx, k, o, g⟩ = none) :
    GrowPost h₀ L (LoopTwo w tp rl en dl cl sd b base (i + 1)) own s₁ .next { s₁ with heap := h', toks := tk } := by
  have hld : (∀ q ∈ P ++ own, @LT.lt Nat _ q.1 dx) ∧ tp < dx ∧ en < dx ∧ dl < dx ∧ cl < dx :=
    ⟨fun q hq => ld q (.tail _ (.tail _ (.tail _ (.tail _ hq)))), ld _ (.head _), ld _ (.tail _ (.head _)), ld _ (.tail _ (.tail _ (.head _))), ld _ (.tail _ (.tail _ (.tail _ (.head _))))⟩
  refine two_end (t1 := t1) (t2 := t2) (t3 := t3) (n := n) (nd := nd) (E := E ++ [⟨(i : Int), x, dx, k, o, g⟩]) (vs := vs) (X9 := [(x, instObj 224 dx), (dx, entD k o g)]) F N ?_ ?_ hpin hne hoff g1 g2 g3 (by unfold entKvs at hod ⊢; rw [List.map_append]; exact hod) (asc_snoc rfl hasc hE) ?_ (by rw [List.length_append]; exact Nat.succ_le_succ hEl) (by omega) ?_ ?_ hbP hcell
  · intro p hp
    rcases List.mem_cons.mp hp with rfl | hp
    · exact .tail _ (.tail _ (.tail _ (.head _)))
    · rcases List.mem_cons.mp hp with rfl | hp
      · exact .tail _ (.tail _ (.tail _ (.tail _ (.head _))))
      · rcases List.mem_cons.mp hp with rfl | hp
        · exact .tail _ (.tail _ (.tail _ (.tail _ (.tail _ (.head _)))))
        · rcases List.mem_cons.mp hp with rfl | hp
          · exact .tail _ (.tail _ (.tail _ (.tail _ (.tail _ (.tail _ (.head _))))))
          · rcases List.mem_cons.mp hp with rfl | hp
            · exact .tail _ (.head _)
            · rcases List.mem_cons.mp hp with rfl | hp
              · exact .tail _ (.tail _ (.head _))
              · exact .tail _ (.tail _ (.tail _ (.tail _ (.tail _ (.tail _ (.tail _ hp))))))
  · intro p hp
    rcases List.mem_cons.mp hp with rfl | hp
    · exact ⟨fun q hq => Nat.lt_trans (hld.1 q hq) lx, Nat.lt_trans hld.2.1 lx, Nat.lt_trans hld.2.2.1 lx, Nat.lt_trans hld.2.2.2.1 lx, Nat.lt_trans hld.2.2.2.2 lx⟩
    · rw [List.mem_singleton.mp hp]; exact hld
  · intro e he
    rcases List.mem_append.mp he with he | he
    · exact ⟨by have := (hE e he).1; omega, (hE e he).2⟩
    · rw [List.mem_singleton.mp he]; exact ⟨by show (i : Int) < _; omega, ho⟩
  · rw [List.filterMap_append, List.filterMap_cons, hv, List.filterMap_nil, List.append_nil]
    exact hdat.mono fun p hp => List.mem_append_right _ hp
  · intro p hp
    rw [entLed_snoc] at hp
    rcases List.mem_append.mp hp with hp | hp
    · exact List.mem_append_right _ (hEP p hp)
    · exact List.mem_append_left _ hp
theorem two_due {w : World} {h₀ h' : Heap} {L : Addr} {tp rl en dl cl : Nat} {sd d c : Int} {b : Array UInt8} {tb t1 t2 t3 n nd i tk : Nat} {base own P : Led} {m' : Str → Option Value} {s₁ : Shared} {o1 o2 o3 o4 od oc : Obj} {cv : Option Value} {E : List EntR} {vs : List Value}
    (F : Fr h₀ L h' m') {X Y x dx : Nat} {oY : Obj} {k : EntK} {o g : Int} {txt : Str} {ta tc ti : Tok} (N : News h₀ L h' ((X, tupO [.str (Str.ofString "entry") ta, .int (i : Int) ti, .str txt tc]) :: (Y, oY) :: (x, instObj 224 dx) :: (dx, entD k o g) :: (tp, tapeO d sd c t1 t2 t3 n) :: (en, od) :: (dl, listOf (vs.toArray.push (.ref X)) (nd + 1)) :: (cl, oc) :: (P ++ own)))
    (hpin : Pins (BasePins tp rl en dl b tb) m') (hne : ∀ p ∈ P, p.1 ≠ tp ∧ p.1 ≠ en ∧ p.1 ≠ dl ∧ p.1 ≠ cl) (hoff : TbOff own ((tp, o1) :: (en, o2) :: (dl, o3) :: (cl, o4) :: P)) (g1 : 0 ≤ d) (g2 : 0 ≤ c) (g3 : c ≤ 200 + 5 * i + 3)
    (hod : od.IsDictOf (intKind PySem.Challenge.rw_qd0124_01.row.prog w) (entKvs E ++ [((i : Int), .ref x)])) (hasc : (E.map (·.num)).Pairwise (· < ·)) (hE : ∀ e ∈ E, e.num < (i : Int) ∧ 0 ≤ e.o) (hEl : E.length ≤ i) (hvl : vs.length ≤ i)
    (hdat : DatAll P vs ((E.filterMap (verdict b)).map dueDat)) (hEP : ∀ p ∈ entLed E, p ∈ P) (hbP : ∀ p ∈ base, p ∈ P) (hcell : oc.data = .cell cv)
    (ho : 0 ≤ o) (lx : dx < x) (ld : ∀ p ∈ (tp, tapeO d sd c t1 t2 t3 n) :: (en, o2) :: (dl, o3) :: (cl, oc) :: (P ++ own), @LT.lt Nat _ p.1 dx) (lX : ∀ p ∈ (Y, oY) :: (x, instObj 224 dx) :: (dx, entD k o g) :: (tp, tapeO d sd c t1 t2 t3 n) :: (en, od) :: (dl, o3) :: (cl, oc) :: (P ++ own), @LT.lt Nat _ p.1 X)
    (hv : verdict b ⟨(i : Int), x, dx, k, o, g⟩ = some ((i : Int), txt)) :
    GrowPost h₀ L (LoopTwo w tp rl en dl cl sd b base (i + 1)) own s₁ .next { s₁ with heap := h', toks := tk } := by
  have hld : (∀ q ∈ P ++ own, @LT.lt Nat _ q.1 dx) ∧ tp < dx ∧ en < dx ∧ dl < dx ∧ cl < dx :=
    ⟨fun q hq => ld q (.tail _ (.tail _ (.tail _ (.tail _ hq)))), ld _ (.head _), ld _ (.tail _ (.head _)), ld _ (.tail _ (.tail _ (.head _))), ld _ (.tail _ (.tail _ (.tail _ (.head _))))⟩
  have lxX : dx < X := lX _ (.tail _ (.tail _ (.head _)))
  have hap : vs.toArray.push (.ref X) = (vs ++ [Value.ref X]).toArray := List.push_toArray ..
  rw [hap] at N
  refine two_end (t1 := t1) (t2 := t2) (t3 := t3) (n := n) (nd := nd + 1) (E := E ++ [⟨(i : Int), x, dx, k, o, g⟩]) (vs := vs ++ [Value.ref X]) (X9 := [(X, tupO [.str (Str.ofString "entry") ta, .int (i : Int) ti, .str txt tc]), (x, instObj 224 dx), (dx, entD k o g)]) F N ?_ ?_ hpin hne hoff g1 g2 g3 (by unfold entKvs at hod ⊢; rw [List.map_append]; exact hod) (asc_snoc rfl hasc hE) ?_ (by rw [List.length_append]; exact Nat.succ_le_succ hEl) (by rw [List.length_append]; exact Nat.succ_le_succ hvl) ?_ ?_ hbP hcell
  · intro p hp
    rcases List.mem_cons.mp hp with rfl | hp
    · exact .tail _ (.tail _ (.tail _ (.tail _ (.head _))))
    · rcases List.mem_cons.mp hp with rfl | hp
      · exact .tail _ (.tail _ (.tail _ (.tail _ (.tail _ (.head _)))))
      · rcases List.mem_cons.mp hp with rfl | hp
        · exact .tail _ (.tail _ (.tail _ (.tail _ (.tail _ (.tail _ (.head _))))))
        · rcases List.mem_cons.mp hp with rfl | hp
          · exact .tail _ (.tail _ (.tail _ (.tail _ (.tail _ (.tail _ (.tail _ (.head _)))))))
          · rcases List.mem_cons.mp hp with rfl | hp
            · exact .head _
            · rcases List.mem_cons.mp hp with rfl | hp
              · exact .tail _ (.tail _ (.head _))
              · rcases List.mem_cons.mp hp with rfl | hp
                · exact .tail _ (.tail _ (.tail _ (.head _)))
                · exact .tail _ (.tail _ (.tail _ (.tail _ (.tail _ (.tail _ (.tail _ (.tail _ hp)))))))
  · intro p hp
    rcases List.mem_cons.mp hp with rfl | hp
    · exact ⟨fun q hq => Nat.lt_trans (hld.1 q hq) lxX, Nat.lt_trans hld.2.1 lxX, Nat.lt_trans hld.2.2.1 lxX, Nat.lt_trans hld.2.2.2.1 lxX, Nat.lt_trans hld.2.2.2.2 lxX⟩
    · rcases List.mem_cons.mp hp with rfl | hp
      · exact ⟨fun q hq => Nat.lt_trans (hld.1 q hq) lx, Nat.lt_trans hld.2.1 lx, Nat.lt_trans hld.2.2.1 lx, Nat.lt_trans hld.2.2.2.1 lx, Nat.lt_trans hld.2.2.2.2 lx⟩
      · rw [List.mem_singleton.mp hp]; exact hld
  · intro e he
    rcases List.mem_append.mp he with he | he
    · exact ⟨by have := (hE e he).1; omega, (hE e he).2⟩
    · rw [List.mem_singleton.mp he]; exact ⟨by show (i : Int) < _; omega, ho⟩
  · rw [List.filterMap_append, List.filterMap_cons, hv, List.filterMap_nil, List.map_append]
    refine (hdat.mono fun p hp => List.mem_append_right _ hp).append (.cons ?_ .nil)
    exact DatIn.tuple (vs := [.str (Str.ofString "entry") ta, .int (i : Int) ti, .str txt tc]) (.head _) (.cons (.str _ _) (.cons (.int _ _) (.cons (.str _ _) .nil)))
  · intro p hp
    rw [entLed_snoc] at hp
    rcases List.mem_append.mp hp with hp | hp
    · exact List.mem_append_right _ (hEP p hp)
    · exact List.mem_append_left _ (.tail _ hp)
theorem check_all {P : Value → Led → Prop} {b : Array UInt8} {E : List EntR} {news : Led} (k : ∀ (fl n : Nat) (fs : List FindR), fs.map (fun f => (f.num, f.txt)) = E.filterMap (verdict b) → P (.ref fl) ((fl, listOf (fs.map fun f => Value.ref f.x).toArray n) :: (findLed fs ++ news))) :
    ∀ r n, CheckOut b E news r n → P r n := by
  rintro _ _ ⟨fl, n, fs, rfl, rfl, h⟩
  exact k fl n fs h
theorem check2 (w : World) (b : Array UInt8) (hb : b.size ≤ 16777216) (tb : Tok) (en : Nat) (od : Obj) (E : List EntR) (news P : Led) (hen : (en, od) ∈ news) (hod : od.IsDictOf (intKind PySem.Challenge.rw_qd0124_01.row.prog w) (entKvs E)) (lo : (en == sysModules) = false)
    (hasc : (E.map (·.num)).Pairwise (· < ·)) (h64 : E.length < 64) (h1 : ∀ p ∈ entLed E, p ∈ P) (h2 : ∀ p ∈ P, p ∈ news) (hoff : ∀ e ∈ E, 0 ≤ e.o) :
    Ctr w 193 [.bytes b tb, .ref en] news (CheckOut b E news) 6 128 := check_ctr w b hb tb en od E news hen hod lo hasc h64 (fun p hp => h2 p (h1 p hp)) hoff
section
open LCg
variable {prog : Program} {w : World} {A : Around} {E : Value → Shared → Prop} {s : Shared} {h₀ : Heap} {L : Addr} {m : Str → Option Value} {env : Env}
theorem SrcW.list {elt : PySem.Expr} {x : Str} {scope : Scope} {cl : List (Str × Addr)} {Fin : Shared → List Value → Led → Prop} {news : Led} {ax : Addr} {its : Array Value} {k : Nat} (hh : A.handled = none) (hz : its.size ≤ sizeLine)
    (F : Fr h₀ L s.heap m) (N : News h₀ L s.heap news) (hm : (ax, listOf its k) ∈ news)
    (R : ∀ h, CompRest prog w A h₀ L m env elt x scope cl { s with heap := h } (fun l => (ax, listOf its k) ∈ l) (fun i v => its[i]? = some v) (Fin { s with heap := h }) its.size 0 [] news) :
    wpAny (model prog w) A (pyIter (.ref ax)) (SrcW prog w A h₀ L m env elt x scope cl Fin) E s := by
  have ht : s.heap.IsList ax its := ⟨_, (N _ hm).1, rfl, _, rfl⟩
  have hlt : ax < s.heap.objs.size := Heap.lt_size (N _ hm).1
  refine wpAny_pyIter_list ht ?_
  refine ⟨_, _, _, _, _, fun l => (ax, listOf its k) ∈ l, news, rfl, Walks.list hh s.heap.objs.size ax (Nat.ne_of_lt hlt) its, hz, fun i h st => ⟨_, st.1.choose_spec.1⟩, ?_, ⟨⟨_, Heap.get?_push_size _ rfl, rfl, rfl⟩, ⟨_, Heap.get?_push_of_some _ (N _ hm).1, rfl, _, rfl⟩⟩, ?_, F.push _, (fun p hp => ⟨Heap.get?_push_of_some _ (N p hp).1, (N p hp).2⟩), Nat.ne_of_lt F.ns.lt, next_is_new F, (fun p hp => Nat.ne_of_lt (Heap.lt_size (N p hp).1)), hm, R _⟩
  · rintro i h h' o nw ⟨⟨o', ho', r⟩, _⟩ e e' _ N' hm'
    rw [e] at ho'; cases ho'
    exact ⟨⟨o, e', r⟩, ⟨_, (N' _ hm').1, rfl, _, rfl⟩⟩
  · intro b hb
    show b < (s.heap.push _).objs.size
    rw [Heap.size_push]
    rcases List.mem_cons.mp hb with rfl | hb
    · exact Nat.lt_succ_self _
    · rw [List.mem_singleton.mp hb]; exact Nat.lt_succ_of_lt hlt
end
theorem verdict_ok {b : Array UInt8} {E : List EntR} : ∀ p ∈ E.filterMap (verdict b), kqdOk 8 (dueDat p) = true := by
  intro p hp
  obtain ⟨e, _, he⟩ := List.mem_filterMap.mp hp
  have h2 : p.2 = noObj ∨ p.2 = otherObj := by
    unfold verdict at he
    split at he
    · rw [← Option.some.inj he]; exact .inl rfl
    · split at he
      · cases he
      · rw [← Option.some.inj he]; exact .inr rfl
  have h0 : PyData.strOk (Str.ofString "entry") = true := by decide +kernel
  have h1 : PyData.strOk p.2 = true := by
    rcases h2 with e | e <;> rw [e] <;> decide +kernel
  simp [dueDat, kqdOk, h0, h1]
theorem due_eq {prog : Program} {w : World} {A : Around} {E : Value → Shared → Prop} {s : Shared} {h₀ : Heap} {L a c : Addr} {led n₁ n₂ T' : Led} {xs ys : List Value} {ka kb : Nat} {l : List (Int × Str)} {Q : Value → Shared → Prop} (N : News h₀ L s.heap led)
    (ma : (a, listOf xs.toArray ka) ∈ led) (Da : DatAll n₁ xs (l.map dueDat)) (sa' : ∀ p ∈ n₁, p ∈ T') (mb : (c, listOf ys.toArray kb) ∈ led) (Db : DatAll n₂ ys (l.map dueDat)) (sb' : ∀ p ∈ n₂, p ∈ T') (hT : ∀ p ∈ T', p ∈ led) (hok : ∀ p ∈ l, kqdOk 8 (dueDat p) = true) (hu : A.units + 64 < cLine)
    (h : Q (.bool true) s) : wpAny (model prog w) A (compareOp .Eq (.ref a) (.ref c)) Q E s := by
  have hk : ∀ d ∈ l.map dueDat, kqdOk 8 d = true := fun d hd => by
    obtain ⟨p, hp, rfl⟩ := List.mem_map.mp hd
    exact hok p hp
  have sa := fun p hp => hT p (sa' p hp)
  have sb := fun p hp => hT p (sb' p hp)
  exact kqd_eq N ma rfl rfl Da sa mb rfl rfl Db sb hk hk hu (by simpa using h)
theorem final_facts {h₀ h : Heap} {L fl : Addr} {fs : List FindR} {nf : Nat} {rest : Led} (N : News h₀ L h ((fl, listOf (fs.map fun f => Value.ref f.x).toArray nf) :: (findLed fs ++ rest))) :
    ∃ (led0 : Led) (fl' : Nat) (fs' : List FindR) (nf' : Nat), fl' = fl ∧ fs' = fs ∧ nf' = nf ∧ led0 = (fl, listOf (fs.map fun f => Value.ref f.x).toArray nf) :: (findLed fs ++ rest) ∧ (fl, listOf (fs.map fun f => Value.ref f.x).toArray nf) ∈ led0 ∧ (∀ f ∈ fs, (f.x, instObj 168 f.dx) ∈ led0 ∧ (f.dx, findD f) ∈ led0) ∧ (∀ p ∈ rest, p ∈ led0) :=
  ⟨_, _, _, _, rfl, rfl, rfl, rfl, .head _, fun f hf => ⟨.tail _ (List.mem_append_left _ (List.mem_flatMap.mpr ⟨f, hf, .head _⟩)), .tail _ (List.mem_append_left _ (List.mem_flatMap.mpr ⟨f, hf, .tail _ (.head _)⟩))⟩, fun p hp => .tail _ (List.mem_append_right _ hp)⟩
theorem final_all {P : Prop} {h₀ h : Heap} {L fl : Addr} {fs : List FindR} {nf : Nat} {rest : Led} (N : News h₀ L h ((fl, listOf (fs.map fun f => Value.ref f.x).toArray nf) :: (findLed fs ++ rest)))
    (k : ∀ led0 : Led, News h₀ L h led0 → (fl, listOf (fs.map fun f => Value.ref f.x).toArray nf) ∈ led0 → (∀ f ∈ fs, (f.x, instObj 168 f.dx) ∈ led0 ∧ (f.dx, findD f) ∈ led0) → (∀ p ∈ rest, p ∈ led0) → P) : P := by
  obtain ⟨led0, fl', fs', nf', e1, e2, e3, e0, k1, k2, k3⟩ := final_facts N
  subst e0
  exact k _ N k1 k2 k3
noncomputable def ToldJ (fs : List FindR) (led0 : Led) (i : Nat) (ys : List Value) (led : Led) : Prop :=
  ∃ T, led = T ++ led0 ∧ DatAll T ys ((fs.take i).map fun f => dueDat (f.num, f.txt))
theorem finds_at {fs : List FindR} {i : Nat} {v : Value} (h : (fs.map fun f => Value.ref f.x).toArray[i]? = some v) : ∃ f, fs[i]? = some f ∧ f ∈ fs ∧ v = .ref f.x := by
  rw [List.getElem?_toArray, List.getElem?_map] at h
  cases e : fs[i]? with
  | none => rw [e] at h; cases h
  | some f => rw [e] at h; exact ⟨f, rfl, List.mem_of_getElem? e, (Option.some.inj h).symm⟩
theorem ToldJ.snoc {fs : List FindR} {led0 T : Led} {i : Nat} {ys : List Value} {f : FindR} {X ta ti tc : Nat} (hf : fs[i]? = some f) (h : DatAll T ys ((fs.take i).map fun f => dueDat (f.num, f.txt))) :
    ToldJ fs led0 (i + 1) (ys ++ [.ref X]) ((X, tupO [.str (Str.ofString "entry") ta, .int f.num ti, .str f.txt tc]) :: (T ++ led0)) := by
  refine ⟨(X, tupO [.str (Str.ofString "entry") ta, .int f.num ti, .str f.txt tc]) :: T, rfl, ?_⟩
  rw [List.take_add_one, hf, Option.toList_some, List.map_append]
  refine (h.mono fun p hp => .tail _ hp).append (.cons ?_ .nil)
  exact DatIn.tuple (vs := [.str (Str.ofString "entry") ta, .int f.num ti, .str f.txt tc]) (.head _) (.cons (.str _ _) (.cons (.int _ _) (.cons (.str _ _) .nil)))
theorem told_news {h₀ h' : Heap} {L : Addr} {q p1 p2 p3 : Addr × Obj} {T : Led} (N : News h₀ L h' (q :: p1 :: p2 :: p3 :: T)) : News h₀ L h' (p1 :: p2 :: p3 :: q :: T) := news_sub N fun p hp => by
  rcases List.mem_cons.mp hp with rfl | hp
  · exact .tail _ (.head _)
  · rcases List.mem_cons.mp hp with rfl | hp
    · exact .tail _ (.tail _ (.head _))
    · rcases List.mem_cons.mp hp with rfl | hp
      · exact .tail _ (.tail _ (.tail _ (.head _)))
      · rcases List.mem_cons.mp hp with rfl | hp
        · exact .head _
        · exact .tail _ (.tail _ (.tail _ (.tail _ hp)))
theorem told_off {I C D X : Addr} {oI oC oD tu : Obj} {T : Led} (lX : ∀ p ∈ (I, oI) :: (C, oC) :: (D, oD) :: T, @LT.lt Nat _ p.1 X) (off : LCg.Off3 I C D T) : LCg.Off3 I C D ((X, tu) :: T) :=
  ⟨⟨Nat.ne_of_gt (lX _ (.head _)), Nat.ne_of_gt (lX _ (.tail _ (.head _))), Nat.ne_of_gt (lX _ (.tail _ (.tail _ (.head _))))⟩, off⟩
theorem told_all {fs : List FindR} {T : Led} {ys : List Value} {l : List (Int × Str)} {n : Nat} (h : DatAll T ys ((fs.take (0 + n)).map fun f => dueDat (f.num, f.txt))) (hn : fs.length ≤ n) (hfs : fs.map (fun f => (f.num, f.txt)) = l) : DatAll T ys (l.map dueDat) := by
  rw [List.take_of_length_le (by omega)] at h
  rw [← hfs, List.map_map]
  exact h
theorem rowLed_tup {R : List RowR} {p : Addr × Obj} (h : p ∈ rowLed R) : ∃ vs, p.2 = tupO vs := by
  obtain ⟨r, _, hp⟩ := List.mem_flatMap.mp h
  unfold rowOne at hp
  rcases List.mem_cons.mp hp with rfl | hp
  · exact ⟨_, rfl⟩
  · by_cases hh : headIs r.q = true
    · rw [if_pos hh] at hp
      rw [List.mem_singleton.mp hp]
      exact ⟨_, rfl⟩
    · rw [if_neg hh] at hp
      nomatch hp
theorem row_far {h₀ h : Heap} {L a : Addr} {led : Led} {R : List RowR} {p : Addr × Obj} {o : Obj} (N : News h₀ L h led) (hR : p ∈ rowLed R) (hp : p ∈ led) (hq : (a, o) ∈ led) (ho : ∀ vs, o ≠ tupO vs) : p.1 ≠ a := by
  intro e
  obtain ⟨vs, hv⟩ := rowLed_tup hR
  have h1 := (N p hp).1
  have h2 := (N (a, o) hq).1
  rw [e, h2] at h1
  exact ho vs ((Option.some.inj h1).trans hv)
theorem list_not_tup {its : Array Value} {n : Nat} (vs : List Value) : listOf its n ≠ tupO vs := by
  intro e
  have h1 : Value.type "list" = Value.type "tuple" := congrArg Obj.cls e
  exact absurd (Value.type.inj h1) (by decide)
theorem cell_not_tup {o : Obj} {v : Option Value} (h : o.data = .cell v) (vs : List Value) : o ≠ tupO vs := by
  intro e; rw [e] at h; cases h
theorem dict_not_tup {o : Obj} {prog : Program} {w : World} {kvs : List (Int × Value)} (h : o.IsDictOf (intKind prog w) kvs) (vs : List Value) : o ≠ tupO vs := by
  intro e; rw [e] at h
  obtain ⟨es, ep, _, h2, _⟩ := h
  cases h2
local macro_rules | `(tactic| walk_at "call ref") => `(tactic| (k_here; k_dflt (refine' CtrP.useT (tape_ctr _ _ _ _ ?hi ?hz _) ?k1 ?k2 ?k3 ?k4 ?k5 ?k6 ?k7 ?k8 ?kp ?_; walk_at "mine sides"; (case kp => assumption); (case hi => assumption); (case hz => first | assumption | omega); intro h' tk' F'; refine tape_all ?_; intro tp' d' sd' t1' t2' t3' n'' b1' b2' b3' lp' N'; (k_lt lp'); (try dsimp only))))

local macro_rules | `(tactic| walk_at "mine sz2") => `(tactic| first | assumption | (refine' app_sz ?s1 ?s2; (case s1 => walk_at "mine sz2"); (case s2 => walk_at "mine sz2")))
local macro_rules | `(tactic| walk_at "binaryOp Add bytes bytes") => `(tactic| (k_here; (with_reducible show wpAny _ _ (binaryOp Operator.Add (Value.bytes _ _) (Value.bytes _ _)) _ _ _); (refine KBy.add_bytes (Nat.le_trans (Nat.add_le_add (by walk_at "mine sz2") (by walk_at "mine sz2")) (by ((try simp only [List.size_toArray, List.length_cons, List.length_nil]); omega))) ?_); intro _ _))
local macro_rules | `(tactic| walk_at "call ref") => `(tactic| (k_here; k_dflt (refine' Ctr.useT (head3 _ _ _ _ _ _ _ _ _ _ _ _ ?hm ?hd0 ?hs0 ?hs1 ?hc0 ?hc1 ?h2) ?k1 ?k2 ?k3 ?k4 ?k5 ?k6 ?k7 ?k8 ?_; walk_at "mine sides"; (case hm => exact num_ok (by assumption) (by assumption) (by assumption)); (case hd0 => omega); (case hs0 => omega); (case hs1 => omega); (case hc0 => omega); (case hc1 => omega); (case h2 => exact List.forall_mem_cons.mpr ⟨Nat.ne_of_gt (by assumption), by assumption⟩); intro h' tk' F'; refine head_all ?kA ?kB; (case' kB => (intro q' d' c' t1' t2' t3' n' a' t' hq' b1' b2' b3' l1' l2' hz1' hz2' hh' N'; (have hz3' := headOcts_sz hz1' hq'); (k_lt l2'); (try dsimp only))); (case' kA => (intro q' d' c' t1' t2' t3' n' a' t' hd' tn' tg' hq' b1' b2' b3' l1' l2' hz1' hz2' hh' l3' l4' l5' N'; (have hz3' := headOcts_sz hz1' hq'); (k_lt l2'); (k_lt l5'); (try dsimp only))))))

local macro_rules | `(tactic| walk_at "exec If BoolOp cons nil") => `(tactic| ((fail_if_success (have g9 : GoOn := by assumption)); refine Stop.mk ?_))
local macro_rules | `(tactic| walk_at "exec Assign cons IfExp") => `(tactic| ((fail_if_success (have g9 : GoOn := by assumption)); refine Stop.mk ?_))
local macro_rules | `(tactic| walk_at "mine memT") => `(tactic| first | assumption | exact List.Mem.head _ | (refine List.mem_cons_of_mem _ ?_; walk_at "mine memT"))
local macro_rules | `(tactic| walk_at "call builtin:len") => `(tactic| (k_here; (with_reducible show wpAny _ _ (call (Value.builtin _) [Value.ref _]) _ _ _); k_dflt (refine' len_rows ?N ?m ?z ?_; (case N => k_asm); (case m => walk_at "mine memT"); (case z => assumption))))
local macro_rules | `(tactic| walk_at "subscriptTail") => `(tactic| (k_here; (with_reducible show wpAny _ _ (subscriptTail _ _ (Value.ref _) (Value.int (Int.fmod _ _) _)) _ _ _); k_dflt (refine' item_any ?N ?m ?z ?z2 ?v ?_; (case N => k_asm); (case m => walk_at "mine memT"); (case z => assumption); (case z2 => assumption); (case v => assumption))))
local macro_rules | `(tactic| k_mem) => `(tactic| walk_at "mine memT")
local macro_rules | `(tactic| walk_at "compareOp NotEq ref ref") => `(tactic| (k_here; k_dflt (refine' rows_ne_nil ?N ?a ?c ?u ?_; (case N => k_asm); (case a => walk_at "mine memT"); (case c => walk_at "mine memT"); (case u => ktr_units))))
local macro_rules | `(tactic| walk_at "compareOp NotEq ref ref") => `(tactic| (k_here; k_dflt (refine' rows_ne_cons ?N ?s ?T ?y ?a ?c ?u ?_; (case N => k_asm); (case s => assumption); (case y => assumption); (case T => walk_at "mine tail"); (case a => walk_at "mine memT"); (case c => walk_at "mine memT"); (case u => ktr_units))))
local macro_rules | `(tactic| walk_at "subscriptTail") => `(tactic| (k_here; (with_reducible show wpAny _ _ (subscriptTail _ _ (Value.ref _) (Value.int 0 _)) _ _ _); k_dflt (refine' item_any (vs := _ :: _) ?N ?m ?z ?z2 ?v ?_; (case N => k_asm); (case m => walk_at "mine memT"); (case z => decide); (case z2 => decide); (case v => exact rfl))))
open LCg LCt
local macro_rules | `(tactic| walk_at "mine pins") => `(tactic| (rename Pins _ _ => hm9; rename Fr _ _ _ _ => F9; rw [← pinM_eq hm9] at F9; dsimp only [pinM, BasePins, List.cons_append, List.nil_append] at F9))
local macro_rules | `(tactic| walk_at "mine cut") => `(tactic| (rename Fr _ _ _ _ => F9; rename News _ _ _ _ => N9; refine cut_end F9 N9 ?hs ?hM; (case' hM => skip); rotate_left))
local macro_rules | `(tactic| walk_at "call ref") => `(tactic| (k_here; k_dflt (refine' Ctr.useT (entry_new _ _ _ _ _ _ _) ?k1 ?k2 ?k3 ?k4 ?k5 ?k6 ?k7 ?k8 ?_; walk_at "mine sides"; intro h' tk' F'; refine entry_all ?_; intro x' dx' k' lx' lp' N'; (have lq' := lp'); (k_lt lp'); (try dsimp only))))
local macro_rules | `(tactic| walk_at "call ref") => `(tactic| (k_here; k_dflt (refine' Ctr.useT (meets3 _ _ ?hb _ _ _ _ _ _ _ _ _ _ ?hx ?hdx ?hp ?hv) ?k1 ?k2 ?k3 ?k4 ?k5 ?k6 ?k7 ?k8 ?_; walk_at "mine sides"; (case hb => assumption); (case hx => walk_at "mine memT"); (case hdx => walk_at "mine memT"); (case hp => assumption); (case hv => assumption); intro h' tk' F'; (first | refine eq_all ?_ | refine eq_all2 ?_); intro N'; (try dsimp only))))
local macro_rules | `(tactic| walk_at "setItem ref int") => `(tactic| (k_here; k_dflt (refine' ent_set ?F ?N ?U ?d ?l ?z ?_; (case F => k_asm); (case N => k_asm); (case U => k_updF); (case d => assumption); (case l => assumption); (case z => assumption)); intro h' od' F' N' hd' hva'; (try dsimp only at N')))
local macro_rules | `(tactic| walk_at "call builtin:list.append") => `(tactic| (k_here; (with_reducible show wpAny _ _ (call (Value.builtin _) [Value.ref _, _]) _ _ _); (rename News _ _ _ ((_, instObj 224 _) :: _) => Nc9; have l7' := news_lt Nc9; k_lt l7'); (rename News _ _ _ ((_, tupO _) :: (_, instObj 224 _) :: _) => Nd9; have l9' := news_lt Nd9; have l8' := l9'; k_lt l9'); k_dflt (refine' append_K ?k1 ?k2 ?k3 ?_ ?z; (case k1 => k_asm); (case k2 => k_asm); (case k3 => k_upd); (case z => assumption)); intro h' F' N'; (try k_sweep)))
local macro_rules | `(tactic| walk_at "compareOp NotEq none ref") => `(tactic| (k_here; k_dflt (refine' ne_none ?N ?c ?u ?_; (case N => k_asm); (case c => walk_at "mine memT"); (case u => ktr_units))))
local macro_rules | `(tactic| walk_at "compareOp Eq none ref") => `(tactic| (k_here; k_dflt (refine' eq_none ?N ?c ?u ?_; (case N => k_asm); (case c => walk_at "mine memT"); (case u => ktr_units))))
local macro_rules | `(tactic| walk_at "call ref") => `(tactic| (k_here; k_dflt (refine' Ctr.useT (check2 _ _ ?hb _ _ _ _ _ _ ?hen ?hod ?lo ?hasc ?h64 ?h1 ?h2 ?hoff) ?k1 ?k2 ?k3 ?k4 ?k5 ?k6 ?k7 ?k8 ?_; walk_at "mine sides"; (case hb => assumption); (case hod => assumption); (case hen => walk_at "mine memT"); (case lo => assumption); (case hasc => assumption); (case h64 => assumption); (case h1 => assumption); (case h2 => walk_at "mine tail"); (case hoff => assumption); intro h' tk' F'; refine check_all ?_; intro fl' nf' fs' ef' N'; (try dsimp only))))
local macro_rules | `(tactic| walk_at "compareOp Eq ref ref") => `(tactic| (k_here; k_dflt (refine' due_eq ?N ?ma ?Da ?sa ?mb ?Db ?sb ?hT ?ok ?u ?_; (case N => k_asm); (case ma => walk_at "mine memT"); (case mb => walk_at "mine memT"); (case Da => assumption); (case Db => assumption); (case sa => assumption); (case sb => assumption); (case hT => walk_at "mine tail"); (case ok => exact verdict_ok); (case u => ktr_units))))
local macro_rules | `(tactic| k_qdec) => `(tactic| decide +kernel)
theorem law_holds : PySem.Challenge.rw_qd0124_01.Holds := Mine.hd (by
  w_strict (
  k_go0
  (all_goals try k_fold)
  rename Heap.IsList _ _ _ => hL
  rename IntsAre _ _ => hI
  k_steps
  refine Stop.go ?_
  rename Fr _ _ _ _ => F1
  with_unfolding_all refine' For_invTF F1 ?_ ?ks
  case ks => intro _; with_unfolding_all rfl
  k_steps
  refine Stop.go ?_
  clear F1
  rename Fr _ _ _ _ => F1
  rename News _ _ _ _ => N1
  rename IsRange _ _ _ _ _ _ _ _ => hr
  rename _ < (5 : Int) => hg5
  rename (_ : Int) ≤ 0 + 1 => hc5
  rename _ < _ ∧ _ < _ ∧ _ < _ ∧ _ < _ ∧ _ < _ => l5
  rename _ < _ ∧ _ < _ ∧ _ < _ ∧ _ < _ => l4
  rename_i oc _ _ _ _ tp _ sd _ _ _ _ _ _ _ q0 _ _ rl _ _ _ l2 en _ od _ _ _ _ _ l3 dl _ _ _ _ _ _ _ _ _ _ _ _ _ d0 c0 _ z1 z2 z3 z4 _ _ _ _ _ _ _ _ _ _
  have q4 : @LT.lt Nat _ en dl := l4.1
  have q3 : @LT.lt Nat _ rl en := l3.1
  have q2 : @LT.lt Nat _ tp rl := l2.1
  refine name_lt q0 ?_
  intro cl ecl q1
  rw [← ecl] at N1
  rename (_ == sysModules) = false => lo
  rename Obj.IsDictOf (intKind _ _) _ _ => hod
  rename _ < (1000000007 : Int) => hsd1
  refine name_it ([(dl, W.listOf #[] 0), (en, od), (cl, oc)] : Led) ?_
  intro base hbase
  refine iter_range_grow2 (LoopOne tp rl en dl sd base) (news := (tp, tapeO d0 sd c0 z1 z2 z3 z4) :: (rl, listOf #[] 0) :: base) rfl hr (range_sm (by omega) hg5).1 (range_sm (by omega) hg5).2 F1 N1 ?_ ?_ ?_ ?_
  · intro p hp
    subst hbase
    rcases List.mem_cons.mp hp with rfl | hp
    · exact .tail _ (.tail _ (.tail _ (.tail _ (.head _))))
    · rcases List.mem_cons.mp hp with rfl | hp
      · exact .tail _ (.tail _ (.tail _ (.head _)))
      · rcases List.mem_cons.mp hp with rfl | hp
        · exact .tail _ (.head _)
        · rcases List.mem_cons.mp hp with rfl | hp
          · exact .tail _ (.tail _ (.head _))
          · rw [List.mem_singleton.mp hp]
            exact .tail _ (.tail _ (.tail _ (.tail _ (.tail _ (.head _)))))
  · refine ⟨[], _, _, _, _, _, _, _, _, _, ⟨rfl, rfl, rfl, rfl, rfl, trivial⟩, by omega, by omega, by omega, rfl, by decide, (fun _ h => nomatch h), rfl, ?_⟩
    subst hbase
    intro p hp
    rcases List.mem_cons.mp hp with rfl | hp
    · exact ⟨Nat.ne_of_gt (by omega), Nat.ne_of_gt (by omega)⟩
    · rcases List.mem_cons.mp hp with rfl | hp
      · exact ⟨Nat.ne_of_gt (by omega), Nat.ne_of_gt (by omega)⟩
      · rw [List.mem_singleton.mp hp]
        exact ⟨Nat.ne_of_lt (by omega), Nat.ne_of_lt (by omega)⟩
  · clear F1 N1
    intro i t own s₁' hi
    refine LoopOne.all ?_
    intro m₁ R b tb u1 u2 u3 u4 n2 d9 c9 hm g1 g2 g3 hR hbz hRA hne hoff F3 N3
    rw [← pinM_eq hm] at F3
    dsimp only [pinM] at F3
    have hi5 : i < 5 := by omega
    simp only [List.cons_append] at N3
    have hnt : ∀ p ∈ rowLed R ++ base ++ own, p.1 ≠ tp := fun p hp => (List.mem_append.mp hp).elim (fun h => (hne p h).1) fun h => hoff p h _ (.head _)
    have hnr : ∀ p ∈ rowLed R ++ base ++ own, p.1 ≠ rl := fun p hp => (List.mem_append.mp hp).elim (fun h => (hne p h).2) fun h => hoff p h _ (.tail _ (.head _))
    generalize hT9 : rowLed R ++ base ++ own = T9 at N3 hnt hnr
    have hz8 : (#[10, 101, 110, 100, 111, 98, 106, 10] : Array UInt8).size ≤ 8 := by decide
    have hfl2 : (R.map fun r => Value.ref r.a).toArray.size ≤ sizeLine := by
      rw [List.size_toArray, List.length_map, sizeLine_eq]
      omega
    k_steps
    · rename News _ _ _ ((_, tupO [Value.bytes _ _, _, _]) :: _) => Nc
      have l9 := news_lt Nc
      have l8 := l9
      k_lt l9
      k_steps
      rename Fr _ _ _ _ => F9
      rename News _ _ _ _ => N9
      rename headIs _ = true => hh
      rename HP.ok _ => hq9
      rename _ ∈ smallNums => hn9
      rename rl < _ ∧ AllLt _ T9 => l5
      subst hT9
      exact one_some F9 N9 ⟨rfl, rfl, rfl, rfl, rfl, trivial⟩ hne hoff hh l8 l5 (by assumption) (by assumption) (by assumption) (by omega) hR hbz hRA hq9 hn9
    · rename News _ _ _ ((_, tupO [Value.bytes _ _, _, _]) :: _) => Nc
      have l9 := news_lt Nc
      have l8 := l9
      k_lt l9
      k_steps
      rename Fr _ _ _ _ => F9
      rename News _ _ _ _ => N9
      rename headIs _ = false => hh
      rename HP.ok _ => hq9
      rename _ ∈ smallNums => hn9
      subst hT9
      exact one_none (hd := 0) (tn := 0) (tg := 0) F9 N9 ⟨rfl, rfl, rfl, rfl, rfl, trivial⟩ hne hoff hh l8 (by assumption) (by assumption) (by omega) hR hbz hRA hq9 hn9
  · clear F1 N1
    intro h3 tk3
    refine LoopOne.all ?_
    intro m₁ R b tb u1 u2 u3 u4 n2 d9 c9 hm g1 g2 g3 hR hbz hRA hne F3 N3
    rw [← pinM_eq hm] at F3
    dsimp only [pinM] at F3
    k_steps
    refine Stop.go ?_
    rename Fr _ _ _ _ => F1
    with_unfolding_all refine' For_invTF F1 ?_ ?ks
    case ks => intro _; with_unfolding_all rfl
    k_steps
    refine Stop.go ?_
    rename World => wd
    rename IsRange _ _ _ _ _ _ _ _ => hr2
    rename Fr _ _ _ _ => F2
    rename News _ _ _ _ => N2
    rename _ = Data.cell _ => hcell0
    have hlen0 : 0 < R.length := by omega
    have hdg5 : R.length ≤ 5 := by omega
    subst hbase
    refine iter_range_grow2 (n := 18) (LoopTwo wd tp rl en dl cl sd b ((rl, listOf (R.map fun r => Value.ref r.a).toArray n2) :: rowLed R))
      (news := (tp, tapeO d9 sd c9 u1 u2 u3 u4) :: (en, od) :: (dl, listOf #[] 0) :: (cl, oc) :: (rl, listOf (R.map fun r => Value.ref r.a).toArray n2) :: rowLed R) rfl hr2 (by decide) (by decide) F2 N2 ?_ ?_ ?_ ?_
    · intro p hp
      rcases List.mem_cons.mp hp with rfl | hp
      · exact .head _
      · rcases List.mem_cons.mp hp with rfl | hp
        · exact .tail _ (.tail _ (List.mem_append_right _ (.tail _ (.head _))))
        · rcases List.mem_cons.mp hp with rfl | hp
          · exact .tail _ (.tail _ (List.mem_append_right _ (.head _)))
          · rcases List.mem_cons.mp hp with rfl | hp
            · exact .tail _ (.tail _ (List.mem_append_right _ (.tail _ (.tail _ (.head _)))))
            · rcases List.mem_cons.mp hp with rfl | hp
              · exact .tail _ (.head _)
              · exact .tail _ (.tail _ (List.mem_append_left _ hp))
    · refine ⟨[], [], (rl, listOf (R.map fun r => Value.ref r.a).toArray n2) :: rowLed R, od, oc, _, d9, c9, tb, u1, u2, u3, u4, 0, ⟨rfl, rfl, rfl, rfl, rfl, trivial⟩, g1, g2, by omega, hod, List.Pairwise.nil, (fun _ h => nomatch h), Nat.le_refl _, Nat.le_refl _, .nil, (fun _ h => nomatch h), fun p hp => hp, hcell0, rfl, ?_⟩
      intro p hp
      rcases List.mem_cons.mp hp with rfl | hp
      · exact ⟨Nat.ne_of_gt (by omega), Nat.ne_of_lt (by omega), Nat.ne_of_lt (by omega), Nat.ne_of_gt (by omega)⟩
      · have hpL : p ∈ rowLed R ++ [(dl, W.listOf #[] 0), (en, od), (cl, oc)] := List.mem_append_left _ hp
        exact ⟨(hne p hpL).1, row_far N2 hp (.tail _ (.tail _ hpL)) (.tail _ (.tail _ (List.mem_append_right _ (.tail _ (.head _))))) (dict_not_tup hod), row_far N2 hp (.tail _ (.tail _ hpL)) (.tail _ (.tail _ (List.mem_append_right _ (.head _)))) list_not_tup, row_far N2 hp (.tail _ (.tail _ hpL)) (.tail _ (.tail _ (List.mem_append_right _ (.tail _ (.tail _ (.head _)))))) (cell_not_tup hcell0)⟩
    · clear F2 N2
      subst ecl
      intro i t own s₁' hi
      refine LoopTwo.all ?_
      intro m₁ E vs P od oc cv d c tb t1 t2 t3 n nd hm g1 g2 g3 hod hasc hE hEl hvl hdat hEP hbP hcell hne hoff F3 N3
      rw [← pinM_eq hm] at F3
      dsimp only [pinM] at F3
      simp only [List.cons_append] at N3
      have hnt : ∀ p ∈ P ++ own, p.1 ≠ tp := fun p hp => (List.mem_append.mp hp).elim (fun h => (hne p h).1) fun h => hoff p h _ (.head _)
      have hnn : ∀ p ∈ P ++ own, p.1 ≠ en := fun p hp => (List.mem_append.mp hp).elim (fun h => (hne p h).2.1) fun h => hoff p h _ (.tail _ (.head _))
      have hnd : ∀ p ∈ P ++ own, p.1 ≠ dl := fun p hp => (List.mem_append.mp hp).elim (fun h => (hne p h).2.2.1) fun h => hoff p h _ (.tail _ (.tail _ (.head _)))
      have hnc : ∀ p ∈ P ++ own, p.1 ≠ _ := fun p hp => (List.mem_append.mp hp).elim (fun h => (hne p h).2.2.2) fun h => hoff p h _ (.tail _ (.tail _ (.tail _ (.head _))))
      have hrlT : (rl, listOf (R.map fun r => Value.ref r.a).toArray n2) ∈ P ++ own := List.mem_append_left _ (hbP _ (.head _))
      have hRT : ∀ p ∈ rowLed R, p ∈ P ++ own := fun p hp => List.mem_append_left _ (hbP _ (.tail _ hp))
      have hbz2 : b.size ≤ 16777216 := by omega
      generalize hT9 : P ++ own = T9 at N3 hnt hnn hnd hnc hrlT hRT
      have hlenI : (R.length : Int) ≠ 0 := by omega
      refine row_pick_all i hlen0 hdg5 ?_
      intro r0 hr0 hk0 hk1 hk2
      have hm0 := hRT _ (rowLed_mem hr0)
      k_steps
      refine Stop.go ?_
      rename Fr _ _ _ _ => F1
      k_dflt (refine LCt.Assign_ListComp_T F1 (by rfl) (by with_unfolding_all rfl) (by with_unfolding_all rfl) (by decide) (by rfl) (by decide) (by rfl) (by rfl) (by rfl) ?_)
      k_steps
      rename Fr _ _ _ _ => F1
      rename News _ _ _ _ => N1
      refine CompSrcT.ledger (its := (R.map fun r => Value.ref r.a).toArray) rfl F1 N1 (by walk_at "mine memT") (by rw [List.size_toArray, List.length_map, sizeLine_eq]; omega) ?_
      intro g
      refine comp_invT (RowsIn R _) ?_ _ _ _ _ ⟨rfl, fun _ h => nomatch h⟩ ?_
      · rintro j ys led v I oI C oC D m₂ h tk E' Nx hJ hP hN hx F2 N2 off ne hNx
        clear F1 N1
        obtain ⟨r, hr, rfl⟩ := rows_at hP
        have hmr := hRT _ (rowLed_mem hr)
        have hJ0 := hJ
        obtain ⟨rfl, hys⟩ := hJ
        have off0 := off
        simp only [Off3] at off
        by_cases hh : headIs r.q = true
        · have hv : headV r = .ref r.hd := if_pos hh
          rw [hv] at hmr
          have hmh := hRT _ (rowLed_hd hr hh)
          k_steps
          · rename Fr _ _ _ _ => F9
            rename News _ _ _ _ => N9
            refine CompEnd.intro F9 N9 _ (fun p hp => hp) off0 (.inr ⟨_, by walk_at "mine memT", rfl, _, rfl⟩) (hNx _ _ ?_)
            exact hJ0.snoc hr
          · rename Fr _ _ _ _ => F9
            rename News _ _ _ _ => N9
            refine CompEnd.intro F9 N9 _ (fun p hp => hp) off0 (.inr ⟨_, by walk_at "mine memT", rfl, _, rfl⟩) (hNx _ _ ?_)
            exact hJ0
        · have hv : headV r = .none := if_neg hh
          rw [hv] at hmr
          k_steps
          · rename Fr _ _ _ _ => F9
            rename News _ _ _ _ => N9
            refine CompEnd.intro F9 N9 _ (fun p hp => hp) off0 (.inr ⟨_, by walk_at "mine memT", rfl, _, rfl⟩) (hNx _ _ ?_)
            exact hJ0
      · rintro ys l ⟨rfl, hys⟩
        intro D h' tk' F2 N2 o1
        clear F1 N1
        dsimp only [lst] at N2
        simp only [Off1] at o1
        k_steps
        refine Stop.go ?_
        refine cut2 F2 (fun L => MidA R tp rl en dl (L + 1) sd b T9 od vs nd i t) ?_ ?_
        · have mark := GoOn.mk
          cases ys with
          | nil =>
            k_steps
            · rename Fr _ _ _ _ => F9
              rename News _ _ _ _ => N9
              refine cut_end2 F9 N9 ⟨r0, _, _, _, _, _, _, _, _, _, _, hr0, ?_, ?_, ?_, ?_, ?_, ?_, ⟨rfl, rfl, rfl, rfl, rfl, rfl, rfl, rfl, rfl, trivial⟩, rfl⟩ <;> first | assumption | omega
          | cons y ys' =>
            obtain ⟨r1, hr1, rfl⟩ := hys y (.head _)
            have hm1 := hRT _ (rowLed_mem hr1)
            k_steps
            · rename Fr _ _ _ _ => F9
              rename News _ _ _ _ => N9
              refine cut_end2 F9 N9 ⟨r1, _, _, _, _, _, _, _, _, _, _, hr1, ?_, ?_, ?_, ?_, ?_, ?_, ⟨rfl, rfl, rfl, rfl, rfl, rfl, rfl, rfl, rfl, trivial⟩, rfl⟩ <;> first | assumption | omega
            · rename Fr _ _ _ _ => F9
              rename News _ _ _ _ => N9
              refine cut_end2 F9 N9 ⟨r0, _, _, _, _, _, _, _, _, _, _, hr0, ?_, ?_, ?_, ?_, ?_, ?_, ⟨rfl, rfl, rfl, rfl, rfl, rfl, rfl, rfl, rfl, trivial⟩, rfl⟩ <;> first | assumption | omega
        · intro h4 tk4
          refine MidA.all ?_
          intro m4 r oc4 wy d4 c4 tw tb4 v1 v2 v3 v4 hr w1 w2 w3 w4 w5 hcell4 hm4 F4 N4
          clear F2 N2 o1
          rw [← pinM_eq hm4] at F4
          dsimp only [pinM, BasePins, List.cons_append, List.nil_append] at F4
          k_steps
          refine Stop.go ?_
          refine cut2 F4 (fun L => MidB R tp rl en dl (L + 1) sd b T9 od vs nd i t) ?_ ?_
          · have mark := GoOn.mk
            by_cases hh : headIs r.q = true
            · have hv : headV r = .ref r.hd := if_pos hh
              rw [hv] at F4
              have hmh := hRT _ (rowLed_hd hr hh)
              k_steps
              all_goals (rename Fr _ _ _ _ => F9; rename News _ _ _ _ => N9)
              all_goals refine cut_end0 F9 N9 ⟨r, _, _, _, _, _, _, _, _, _, _, _, _, hr, ?_, ?_, ?_, ?_, ?_, ?_, ⟨rfl, rfl, rfl, rfl, rfl, rfl, rfl, by rw [hv]; rfl, rfl, rfl, trivial⟩, rfl⟩ <;> first | assumption | omega
            · have hv : headV r = .none := if_neg hh
              rw [hv] at F4
              k_steps
              all_goals (rename Fr _ _ _ _ => F9; rename News _ _ _ _ => N9)
              all_goals refine cut_end0 F9 N9 ⟨r, _, _, _, _, _, _, _, _, _, _, _, _, hr, ?_, ?_, ?_, ?_, ?_, ?_, ⟨rfl, rfl, rfl, rfl, rfl, rfl, rfl, by rw [hv]; rfl, rfl, rfl, trivial⟩, rfl⟩ <;> first | assumption | omega
          · intro h5 tk5
            refine MidB.all ?_
            intro m5 r oc5 wy d5 c5 g tw tb5 tg v1 v2 v3 v4 hr w1 w2 w3 w4 w5 hcell5 hm5 F5 N5
            clear F4 N4
            rw [← pinM_eq hm5] at F5
            dsimp only [pinM, BasePins, List.cons_append, List.nil_append] at F5
            k_steps
            refine Stop.go ?_
            refine cut2 F5 (fun L => MidC tp rl en dl (L + 1) sd b T9 od vs nd i t) ?_ ?_
            · have mark := GoOn.mk
              k_steps
              · rename Fr _ _ _ _ => F9
                rename News _ _ _ _ => N9
                refine cut_end1 F9 N9 ⟨_, _, _, _, _, _, _, _, _, _, _, _, _, _, _, _, far_st, ?_, ?_, ?_, ?_, ?_, ?_, ⟨rfl, rfl, rfl, rfl, rfl, rfl, rfl, rfl, rfl, rfl, trivial⟩, rfl⟩ <;> first | assumption | omega
              all_goals (rename Fr _ _ _ _ => F9; rename News _ _ _ _ => N9)
              all_goals refine cut_end0 F9 N9 ⟨_, _, _, _, _, _, _, _, _, _, _, _, _, _, _, _, row_st (hRA r hr) hr hRT, ?_, ?_, ?_, ?_, ?_, ?_, ⟨rfl, rfl, rfl, rfl, rfl, rfl, rfl, rfl, rfl, rfl, trivial⟩, rfl⟩ <;> first | assumption | omega
            · intro h6 tk6
              refine MidC.all ?_
              intro m6 oc6 wy d6 c6 g o hv pa tw tb6 tg to6 v1 v2 v3 v4 hsx w1 w2 w3 w4 w5 hcell6 hm6 F6 N6
              have ho0 := hsx.1
              have hst := hsx.2.1
              have hpar := hsx.2.2
              clear F5 N5
              rw [← pinM_eq hm6] at F6
              dsimp only [pinM, BasePins, List.cons_append, List.nil_append] at F6
              have mark := GoOn.mk
              have hEz : E.length ≤ sizeLine := by rw [sizeLine_eq]; omega
              have hvz : vs.toArray.size ≤ sizeLine := by rw [List.size_toArray, sizeLine_eq]; omega
              by_cases hw : 0 < wy
              · rcases hst with ⟨rfl, hho⟩ | ⟨hd9, hi9, hj9, t8, u8, rfl, hmem9, hho⟩
                · cases pa with
                  | false =>
                    k_steps
                    rename Fr _ _ _ _ => F9
                    rename News _ _ _ _ => N9
                    rename Obj.IsDictOf _ _ (_ ++ _) => hd9
                    rename ∀ p ∈ (_, tupO _) :: (_, instObj 224 _) :: _, _ => lX9
                    rename ∀ p ∈ (tp, _) :: _, p.1 < _ => ld9
                    subst hT9
                    refine two_due F9 N9 ⟨rfl, rfl, rfl, rfl, rfl, trivial⟩ hne hoff w3 w4 w5 hd9 hasc hE hEl hvl hdat hEP hbP hcell6 ho0 (by assumption) ld9 lX9 ?_
                    unfold verdict; rw [hho]; rfl
                  | true =>
                    have hM : meetB b o (i : Int) g = false := by rw [hpar rfl, hho]; rfl
                    k_steps
                    rename Fr _ _ _ _ => F9
                    rename News _ _ _ _ => N9
                    rename Obj.IsDictOf _ _ (_ ++ _) => hd9
                    rename ∀ p ∈ (_, tupO _) :: (_, instObj 224 _) :: _, _ => lX9
                    rename ∀ p ∈ (tp, _) :: _, p.1 < _ => ld9
                    subst hT9
                    refine two_due F9 (news_sub N9 fun p hp => .tail _ hp) ⟨rfl, rfl, rfl, rfl, rfl, trivial⟩ hne hoff w3 w4 w5 hd9 hasc hE hEl hvl hdat hEP hbP hcell6 ho0 (by assumption) ld9 lX9 ?_
                    unfold verdict; rw [hho]; rfl
                · by_cases hpq : (hi9, hj9) = ((i : Int), g)
                  · cases pa with
                    | false =>
                      k_steps
                      rename Fr _ _ _ _ => F9
                      rename News _ _ _ _ => N9
                      rename Obj.IsDictOf _ _ (_ ++ _) => hd9
                      rename ∀ p ∈ (tp, _) :: _, p.1 < _ => ld9
                      subst hT9
                      refine two_eq F9 N9 ⟨rfl, rfl, rfl, rfl, rfl, trivial⟩ hne hoff w3 w4 w5 hd9 hasc hE hEl hvl hdat hEP hbP hcell6 ho0 (by assumption) ld9 ?_
                      unfold verdict; rw [hho]; exact if_pos hpq
                    | true =>
                      have hM : meetB b o (i : Int) g = true := by rw [hpar rfl, hho, hpq]; exact decide_eq_true rfl
                      k_steps
                      · rename (true != decide _) = true => hbad
                        rw [decide_eq_true hpq] at hbad
                        exact absurd hbad (by decide)
                      rename Fr _ _ _ _ => F9
                      rename News _ _ _ _ => N9
                      rename Obj.IsDictOf _ _ (_ ++ _) => hd9
                      rename ∀ p ∈ (tp, _) :: _, p.1 < _ => ld9
                      subst hT9
                      refine two_eq F9 (news_sub N9 fun p hp => .tail _ hp) ⟨rfl, rfl, rfl, rfl, rfl, trivial⟩ hne hoff w3 w4 w5 hd9 hasc hE hEl hvl hdat hEP hbP hcell6 ho0 (by assumption) ld9 ?_
                      unfold verdict; rw [hho]; exact if_pos hpq
                  · cases pa with
                    | false =>
                      k_steps
                      rename Fr _ _ _ _ => F9
                      rename News _ _ _ _ => N9
                      rename Obj.IsDictOf _ _ (_ ++ _) => hd9
                      rename ∀ p ∈ (_, tupO _) :: (_, instObj 224 _) :: _, _ => lX9
                      rename ∀ p ∈ (tp, _) :: _, p.1 < _ => ld9
                      subst hT9
                      refine two_due F9 N9 ⟨rfl, rfl, rfl, rfl, rfl, trivial⟩ hne hoff w3 w4 w5 hd9 hasc hE hEl hvl hdat hEP hbP hcell6 ho0 (by assumption) ld9 lX9 ?_
                      unfold verdict; rw [hho]; exact if_neg hpq
                    | true =>
                      have hM : meetB b o (i : Int) g = false := by rw [hpar rfl, hho]; exact decide_eq_false fun q => hpq (Option.some.inj q)
                      k_steps
                      · rename (false != decide _) = true => hbad
                        rw [decide_eq_false hpq] at hbad
                        exact absurd hbad (by decide)
                      rename Fr _ _ _ _ => F9
                      rename News _ _ _ _ => N9
                      rename Obj.IsDictOf _ _ (_ ++ _) => hd9
                      rename ∀ p ∈ (_, tupO _) :: (_, instObj 224 _) :: _, _ => lX9
                      rename ∀ p ∈ (tp, _) :: _, p.1 < _ => ld9
                      subst hT9
                      refine two_due F9 (news_sub N9 fun p hp => .tail _ hp) ⟨rfl, rfl, rfl, rfl, rfl, trivial⟩ hne hoff w3 w4 w5 hd9 hasc hE hEl hvl hdat hEP hbP hcell6 ho0 (by assumption) ld9 lX9 ?_
                      unfold verdict; rw [hho]; exact if_neg hpq
              · k_steps
                rename Fr _ _ _ _ => F9
                rename News _ _ _ _ => N9
                subst hT9
                exact two_same F9 N9 ⟨rfl, rfl, rfl, rfl, rfl, trivial⟩ hne hoff w3 w4 w5 hod hasc hE hEl hvl hdat hEP hbP hcell6
    · clear F2 N2
      subst ecl
      intro h7 tk7
      refine LoopTwo.all ?_
      intro m₁ E vs P od oc cv d c tb t1 t2 t3 n nd hm g1' g2' g3' hod2 hasc hE hEl hvl hdat hEP hbP hcell hne F3 N3
      rw [← pinM_eq hm] at F3
      dsimp only [pinM] at F3
      have hbz2 : b.size ≤ 16777216 := by omega
      have h64 : E.length < 64 := by omega
      have hEo : ∀ e ∈ E, 0 ≤ e.o := fun e he => (hE e he).2
      k_steps
      refine Stop.go ?_
      rename Fr _ _ _ _ => F1
      k_dflt (refine ListComp_W F1 (by with_unfolding_all rfl) (by decide) (by rfl) (by decide) (by rfl) ?_)
      k_steps
      refine Stop.go ?_
      rename Fr _ _ _ _ => F1
      rename News _ _ _ _ => N1
      rename List.map _ _ = _ => hfs
      rename_i fl nf fs
      refine final_all N1 ?_
      clear N1
      intro led0 N1 k1 k2 k3
      have hfl : fs.length < 64 := by
        have h1 := congrArg List.length hfs
        have h2 := List.length_filterMap_le (verdict b) E
        rw [List.length_map] at h1
        omega
      refine SrcW.list rfl (by rw [List.size_toArray, List.length_map, sizeLine_eq]; omega) F1 N1 k1 fun g => ?_
      refine comp_inv (ToldJ fs led0) ?_ ?_ _ _ _ _ ⟨[], rfl, .nil⟩ ?_
      · rintro i ys l ⟨T, rfl, _⟩
        exact List.mem_append_right _ k1
      · rintro i ys led v I oI C oC D m₂ h tk E' Q' ⟨T, rfl, hdT⟩ hP hN hx F2 N2 off ne hQ'
        clear F1 N1
        obtain ⟨f, hf, hfm, rfl⟩ := finds_at hP
        have hfx : (f.x, instObj 168 f.dx) ∈ T ++ led0 := List.mem_append_right _ (k2 f hfm).1
        have hfd : (f.dx, findD f) ∈ T ++ led0 := List.mem_append_right _ (k2 f hfm).2
        have off0 := off
        have hlt2 := news_lt N2
        generalize hT8 : T ++ led0 = T8 at *
        k_steps
        rename Fr _ _ _ _ => F9
        rename News _ _ _ ((_, tupO _) :: _) => N9
        rename News _ _ _ ((I, _) :: _) => Np
        have lX := news_lt Np
        subst hT8
        exact hQ' _ _ _ _ (ToldJ.snoc hf hdT) F9 (told_news N9) (told_off lX off0)
      · rintro ys l ⟨T, rfl, hdT⟩
        intro D h' tk' F2 N2 o1
        clear F1 N1
        dsimp only [lst] at N2
        have hdT2 := told_all hdT (by rw [List.size_toArray, List.length_map]; exact Nat.le_refl _) hfs
        have hTa : ∀ p ∈ T, p ∈ T ++ led0 := fun p hp => List.mem_append_left _ hp
        have hPa : ∀ p ∈ P, p ∈ T ++ led0 := fun p hp => List.mem_append_right _ (k3 p (.tail _ (.tail _ (.tail _ (.tail _ hp)))))
        have hdl : (dl, listOf vs.toArray nd) ∈ T ++ led0 := List.mem_append_right _ (k3 _ (.tail _ (.tail _ (.head _))))
        generalize hT8 : T ++ led0 = T8 at *
        k_steps))
end Mine
set_option maxRecDepth 100000 in
set_option maxHeartbeats 8000000 in
theorem PySem.Challenge.cw_qd0124_01_holds : PySem.Challenge.rw_qd0124_01.Holds := by
  exact Mine.law_holds
