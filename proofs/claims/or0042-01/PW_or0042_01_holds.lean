import PyProof.Rows.All
import Wide.All
import OpenK.AllK
import Wide.FinOn
import PySem.Challenge.RW_or0042_01
open PySem PySem.W PyProof.Rows
set_option Elab.async false
set_option compiler.extract_closed false
set_option maxRecDepth 100000
set_option maxHeartbeats 8000000
set_option linter.unusedVariables false
namespace Mine
noncomputable def hd.view_39 : Program := view PySem.Challenge.pw_or0042_01 [0,2,3,5,6,7,8,9,10,11,12,13,14,15,16,17,18,19,20,21,22,24,25,26,27,28]
noncomputable def topG (st : SharedT → Thread → Option (SharedT × Thread)) (ok : Thread → Bool) : Nat → SharedT → Thread → Option SharedT
  | 0, _, _ => none
  | n + 1, s, t => match through t with
    | true => some s
    | false => match ok t with
      | false => none
      | true => match st s t with
        | some (s', t') => topG st ok n s' t'
        | none => none
theorem topRun_of {tb : String → Option Builtin} {p : Program} {w : World} {n₀ : Nat} {ann : Option Value} : ∀ {n : Nat} {s s' : SharedT} {t : Thread}, topG (stepT (denote tb) p w) (stepOk n₀ ann) n s t = some s' → topRun tb p w n₀ ann n s.abs t = some s'.abs
  | 0, _, _, _, h => by cases h
  | n + 1, s, s', t, h => by
    unfold topG at h
    unfold topRun
    cases he : through t with
    | true => rw [he] at h; cases h; rfl
    | false =>
      rw [he] at h
      cases hk : stepOk n₀ ann t with
      | false => rw [hk] at h; cases h
      | true =>
        rw [hk] at h
        cases hs : stepT (denote tb) p w s t with
        | none => rw [hs] at h; cases h
        | some r => obtain ⟨s₂, t₂⟩ := r; rw [hs] at h; rw [stepT_spec hs]; exact topRun_of h
noncomputable def insAll : List Obj → Nat → BT → BT
  | [], _, t => t
  | o :: r, n, t => insAll r (n + 1) (t.ins n o)
noncomputable def bootT (P : Params) : BT := insAll (boot_heap P).objs.toList 0 .nil
noncomputable abbrev endT (p : Program) (w : World) (os : OsState) (N : Nat) : Option SharedT := topG (stepT (denote treeTable) p w) (stepOk 11 (some (.ref 6))) N ⟨bootT w.params, 11, (boot_heap w.params).life, Array.mk [], boot_drawn, boot_toks, os⟩ (topStub p)
noncomputable abbrev look1 (q : Program) (loose mods : List Str) (Xt : Shared → Bool) (g0 : Bool) (s : Shared) := (PyProof.Rows.seen ((recsOf q).map (·.name)) (ownsOf q) [] { s with gens := #[] }, s.heap.bltView,
   s.heap.keysOk (looseW q loose) ((recsOf q).map (·.name)) ((litsOf q).map (·.1)) ((clssOf q (looseW q loose)).map (·.name)) && s.heap.accountedOkI mods && s.heap.isNs mainGlobals && s.heap.isNs builtinsNs && tablesOk q s.heap && Xt s && (if g0 then s.gens.size == 0 else !leftWithCleanup s.gens))
noncomputable abbrev look2 (q : Program) (loose : List Str) (s : Shared) := (tabsOk q s, pinSeenD q (drecsOf q) s, plainSeenE q (looseW q loose) s, plainSeenD q loose s, wideSeen q s, clsSeenW q loose s)
theorem left_of {p q : Program} {loose : List Str} {Xt : Shared → Bool} {α : Type} {Yf : Shared → α} {Ya : World → α} {N : Nat} {g0 : Bool}
    (e : opening p = plainProg p.main.scope.names) (hN : Nat.ble 600 N = true) (f : ∀ s, fenceModules? p s = some s)
    (hb : ∀ P : Params, boot_heap P = absHeap (bootT P) 11 (boot_heap P).life)
    (size : ∀ w : World, ((boot_heap w.params).isNs mainGlobals && (Array.mk [] : Array GenState).size == 0, (boot_heap w.params).objs.size, (boot_heap w.params).nsMap mainGlobals "__annotations__") = (true, 11, some (.ref 6)))
    (h1 : ∀ (w : World) (os : OsState), (endT p w os N).map (fun s => look1 q loose (importedModules p.main.body) Xt g0 s.abs) = some (expectedOf q, bltViewBooted, true))
    (h2 : ∀ (w : World) (os : OsState), (endT p w os N).map (fun s => look2 q loose s.abs) = some (true, pinGoodD (drecsOf q), plainGoodE q (looseW q loose), plainGoodD q loose, wideGood q, clsGoodW q loose))
    (h : ∀ (w : World) (os : OsState), (endT p w os N).map (fun s => (staticsOk (importedModules p.main.body) (boot_heap w.params) s.abs.heap && namesBound p s.abs.heap && gensDone s.abs && laidKept (boot_heap w.params) s.abs.heap, Yf s.abs)) = some (true, Ya w)) : LeftO p q loose Xt Yf Ya N g0 := fun w => by
  obtain ⟨⟨hp, gs, d, k, os⟩, e1, e2⟩ := Option.map_eq_some_iff.mp (boot_open e hN f w)
  obtain ⟨rfl, rfl, rfl, rfl⟩ : hp = boot_heap w.params ∧ gs = Array.mk [] ∧ d = boot_drawn ∧ k = boot_toks := by simpa using e2
  obtain ⟨z1, z2, z3⟩ : _ ∧ _ ∧ _ := by simpa only [Prod.mk.injEq] using size w
  obtain ⟨s₁, r, l⟩ := Option.map_eq_some_iff.mp (h w os)
  obtain ⟨l1, l3⟩ : _ ∧ _ := by simpa only [Prod.mk.injEq] using l
  have a1 := Option.some.inj ((congrArg (Option.map _) r).symm.trans (h1 w os))
  have a2 := Option.some.inj ((congrArg (Option.map _) r).symm.trans (h2 w os))
  have r := topRun_of r
  rw [SharedT.abs] at r
  dsimp only at r
  rw [← hb] at r
  have b1 := congrArg Prod.fst a1
  have c1 := congrArg Prod.snd a1
  have d1 := congrArg Prod.fst c1
  have d2 := congrArg Prod.snd c1
  have l2 : openSeen q loose (importedModules p.main.body) Xt g0 s₁.abs = openGood q loose :=
    Prod.ext b1 (Prod.ext d1 (Prod.ext d2 a2))
  have t : topFrom treeTable p w N ⟨boot_heap w.params, Array.mk [], boot_drawn, boot_toks, os⟩ = some s₁.abs := by
    unfold topFrom
    dsimp only
    rw [z1, z2, z3, r]
    show (match staticsOk (importedModules p.main.body) (boot_heap w.params) s₁.abs.heap && namesBound p s₁.abs.heap && gensDone s₁.abs && laidKept (boot_heap w.params) s₁.abs.heap with | true => _ | false => _) = _
    rw [l1]
  unfold openEnds
  rw [e1]
  show (topFrom treeTable p w N _).map _ = _
  rw [t]
  exact congrArg some (Prod.ext l2 l3)
theorem seen1 (w : World) (os : OsState) : (endT PySem.Challenge.pw_or0042_01 w os 2474).map (fun s => look1 hd.view_39 [Str.ofString "PostError"] (importedModules PySem.Challenge.pw_or0042_01.main.body) (fun s => xlAt hd.view_39 [] s && recOk (RowW.records (OpenRow.toRowW (OpenLaw.row PySem.Challenge.rw_or0042_01))) s) true s.abs) = some (expectedOf hd.view_39, bltViewBooted, true) := by
  unfold endT look1
  rw [PySem.W.Fast.te10156331382660048174, PySem.W.Fast.te6613529449190102663, PySem.W.Fast.te11892475500146522536, PySem.W.Fast.te14364793385576792824, PySem.W.Fast.te5160383126252970620, PySem.W.Fast.te10880121769531294198, PySem.W.Fast.te5923862056798008813]
  kernel_rfl
theorem seen2 (w : World) (os : OsState) : (endT PySem.Challenge.pw_or0042_01 w os 2474).map (fun s => look2 hd.view_39 [Str.ofString "PostError"] s.abs) = some (true, pinGoodD (drecsOf hd.view_39), plainGoodE hd.view_39 (looseW hd.view_39 [Str.ofString "PostError"]), plainGoodD hd.view_39 [Str.ofString "PostError"], wideGood hd.view_39, clsGoodW hd.view_39 [Str.ofString "PostError"]) := by
  unfold endT look2
  rw [PySem.W.Fast.te10156331382660048174, PySem.W.Fast.te6613529449190102663, PySem.W.Fast.te11892475500146522536, PySem.W.Fast.te14364793385576792824, PySem.W.Fast.te16090120013241838585, PySem.W.Fast.te7317090234206586261, PySem.W.Fast.te7369524293546568484]
  kernel_rfl
local macro_rules | `(tactic| o_head $H) => `(tactic| (
  refine holds_open (q := hd.view_39) (loose := [Str.ofString "PostError"]) (Xt := fun s => xlAt hd.view_39 [] s && recOk (RowW.records (OpenRow.toRowW (OpenLaw.row PySem.Challenge.rw_or0042_01))) s) (XP := XL hd.view_39 []) (Yf := Hook.obs $H) (Ya := Hook.val $H) (YP := Hook.says $H) (N := 2474) ?hl (Hook.of $H) (Hook.keeps $H) (fun s e => xl_of s (Bool.and_eq_true_iff.mp e).1) XL.keeps (by rfl) (by rfl) (by rfl) (fun s e => recFacts_of (Bool.and_eq_true_iff.mp e).2) (by rfl) (by assumption) (by decide +kernel) ⟨rfl, rfl, rfl, rfl, rfl, by decide +kernel⟩ ?hw ?hc
  case hl => (
    show LeftO PySem.Challenge.pw_or0042_01 _ _ _ _ _ _ _
    refine left_of (by kernel_rfl) (by kernel_rfl) (fun s => by kernel_rfl) (fun P => by kernel_rfl) (fun w => by kernel_rfl) seen1 seen2 ?_
    intro w os
    unfold endT
    rw [PySem.W.Fast.te10156331382660048174, PySem.W.Fast.te6613529449190102663, PySem.W.Fast.te11892475500146522536, PySem.W.Fast.te14364793385576792824, PySem.W.Fast.te5923862056798008813]
    kernel_rfl)))
open_top hd for PySem.Challenge.rw_or0042_01
end Mine
namespace Mine
/-- what a call of the def at f, by place, tells: its answer and the ledger behind it -/
noncomputable def Tell (w : World) (news : List (Addr × Obj)) (f : Addr) (args : List Value) (d u : Nat) (Post : Value → List (Addr × Obj) → Prop) : Prop :=
  ∀ (mean : ExcName → Option Value) (mg mb : Str → Option Value) (dp un : Nat) (gd : Option (List Code)) (cn : Str) (cs : Scope) (a : Addr) (ccd : Value) (cl : List (Str × Addr)) (outer : List Env) (A₀ : Around) (base h₀ : Heap) (L : Addr) (m : Str → Option Value) (s : Shared)
    (Q E : Value → Shared → Prop),
    Below A₀ base outer h₀ → Fr h₀ L s.heap m → (hd.heap_39 w.params).In h₀ → News h₀ L s.heap news → Top hd.view_39 (looseW hd.view_39 [Str.ofString "PostError"]) mean mg mb h₀ → cs.kind = .function → dp + d < recursionLimit → un + u < cLine →
    (∀ v news' h' tk', Post v news' → Fr h₀ L h' m → News h₀ L h' news' → Q v { s with heap := h', toks := tk' }) →
    wpAny (model PySem.Challenge.rw_or0042_01.row.prog w) (ktrTop dp un gd cn cs L a ccd cl outer) (call (.ref f) args) Q E s
theorem Tell.use {w : World} {news : List (Addr × Obj)} {f : Addr} {args : List Value} {d u : Nat} {Post : Value → List (Addr × Obj) → Prop} (T : Tell w news f args d u Post)
    {mean : ExcName → Option Value} {mg mb : Str → Option Value} {dp un : Nat} {gd : Option (List Code)} {cn : Str} {cs : Scope} {a : Addr} {ccd : Value} {cl : List (Str × Addr)} {outer : List Env} {A₀ : Around} {base h₀ : Heap} {L : Addr} {m : Str → Option Value} {s : Shared}
    {Q E : Value → Shared → Prop} (B : Below A₀ base outer h₀) (F : Fr h₀ L s.heap m) (X : (hd.heap_39 w.params).In h₀) (N : News h₀ L s.heap news) (Tp : Top hd.view_39 (looseW hd.view_39 [Str.ofString "PostError"]) mean mg mb h₀) (hk : cs.kind = .function)
    (hd : dp + d < recursionLimit) (hu : un + u < cLine) (ret : ∀ v news' h' tk', Post v news' → Fr h₀ L h' m → News h₀ L h' news' → Q v { s with heap := h', toks := tk' }) :
    wpAny (model PySem.Challenge.rw_or0042_01.row.prog w) (ktrTop dp un gd cn cs L a ccd cl outer) (call (.ref f) args) Q E s := T _ _ _ _ _ _ _ _ _ _ _ _ _ _ _ _ _ _ _ _ B F X N Tp hk hd hu ret
/-- the walk stops at a call: the proof takes it from there -/
noncomputable def Stop (P : Prop) : Prop := P
theorem stop {P : Prop} (h : Stop P) : P := h
theorem unstop {P : Prop} (h : P) : Stop P := h
abbrev B := List UInt8
section
variable {prog : Program} {w : World} {A : Around} {E : Value → Shared → Prop} {s : Shared} {value slice : PySem.Expr} {b c : B} {t u : Tok} {h₀ : Heap} {L : Addr} {m : Str → Option Value} {news : List (Addr × Obj)} {Q : Value → Shared → Prop}
theorem picked_nat (b : B) (i j : Nat) : KBy.picked b.toArray (some (i : Int)) (some (j : Int)) = ((b.drop i).take (j - i)).toArray := by
  rw [KBc.picked_eq]
  simp only [Option.elim, clipAt_nat, List.size_toArray]
  congr 1
  by_cases h : i ≤ b.length
  · rw [Nat.min_eq_left h]
    by_cases h2 : j ≤ b.length
    · rw [Nat.min_eq_left h2]
    · rw [Nat.min_eq_right (by omega)]
      rw [List.take_of_length_le (by simp), List.take_of_length_le (by simp; omega)]
  · have h' : b.length ≤ i := by omega
    rw [Nat.min_eq_right h', List.drop_eq_nil_of_le (Nat.le_refl _), List.drop_eq_nil_of_le h']
    simp
theorem my_slice {tl th : Tok} {lo hi : Int} {i j : Nat} (F : Fr h₀ L s.heap m) (N : News h₀ L s.heap news) (hlo : lo = (i : Int)) (hhi : hi = (j : Int)) (hz : b.length ≤ 16777216)
    (h : ∀ h' t' k, Fr h₀ L h' m → News h₀ L h' news → Q (.bytes ((b.drop i).take (j - i)).toArray t') { s with heap := h', toks := k })
    (hs : subscripted slice false (.bytes b.toArray t) (.ref s.heap.objs.size) = operate [.ref s.heap.objs.size, .bytes b.toArray t] (getItem (.bytes b.toArray t) (.ref s.heap.objs.size)) := by with_unfolding_all rfl)
    (ht : ∀ r, letTemporaryGo value (.bytes b.toArray t) r = pure () := by intro _; with_unfolding_all rfl) :
    wpAny (model prog w) A (subscriptTail value slice (.bytes b.toArray t) (.ref s.heap.objs.size)) Q E { s with heap := s.heap.push { cls := .type "slice", data := .fields #[.int lo tl, .int hi th, .none] } } := by
  subst hlo hhi
  refine KBc.slice_K (l := .int i tl) (u := .int j th) (lo := some (i : Int)) (hi := some (j : Int)) F N rfl (by constructor) (by constructor) (by rw [KBw.ints_length]; simpa using hz) (fun h' t' k F' N' _ => ?_) hs ht
  have := h h' t' k F' N'
  rw [← picked_nat] at this
  exact this
theorem my_slice_at {tl th : Tok} {lo hi : Int} {i k : Nat} {y : B} (F : Fr h₀ L s.heap m) (N : News h₀ L s.heap news) (hlo : lo = (i : Int)) (hhi : hi = ((i + k : Nat) : Int)) (hd : b.drop i = y) (hz : b.length ≤ 16777216)
    (h : ∀ h' t' tk, Fr h₀ L h' m → News h₀ L h' news → Q (.bytes (y.take k).toArray t') { s with heap := h', toks := tk })
    (hs : subscripted slice false (.bytes b.toArray t) (.ref s.heap.objs.size) = operate [.ref s.heap.objs.size, .bytes b.toArray t] (getItem (.bytes b.toArray t) (.ref s.heap.objs.size)) := by with_unfolding_all rfl)
    (ht : ∀ r, letTemporaryGo value (.bytes b.toArray t) r = pure () := by intro _; with_unfolding_all rfl) :
    wpAny (model prog w) A (subscriptTail value slice (.bytes b.toArray t) (.ref s.heap.objs.size)) Q E { s with heap := s.heap.push { cls := .type "slice", data := .fields #[.int lo tl, .int hi th, .none] } } := by
  refine my_slice F N hlo hhi hz (fun h' t' tk F' N' => ?_) hs ht
  rw [hd, Nat.add_sub_cancel_left]
  exact h h' t' tk F' N'
theorem my_slice_d {tl th : Tok} {lo hi : Int} {i j : Nat} {y : B} (F : Fr h₀ L s.heap m) (N : News h₀ L s.heap news) (hlo : lo = (i : Int)) (hhi : hi = (j : Int)) (hd : b.drop i = y) (hz : b.length ≤ 16777216)
    (h : ∀ h' t' tk, Fr h₀ L h' m → News h₀ L h' news → Q (.bytes (y.take (j - i)).toArray t') { s with heap := h', toks := tk })
    (hs : subscripted slice false (.bytes b.toArray t) (.ref s.heap.objs.size) = operate [.ref s.heap.objs.size, .bytes b.toArray t] (getItem (.bytes b.toArray t) (.ref s.heap.objs.size)) := by with_unfolding_all rfl)
    (ht : ∀ r, letTemporaryGo value (.bytes b.toArray t) r = pure () := by intro _; with_unfolding_all rfl) :
    wpAny (model prog w) A (subscriptTail value slice (.bytes b.toArray t) (.ref s.heap.objs.size)) Q E { s with heap := s.heap.push { cls := .type "slice", data := .fields #[.int lo tl, .int hi th, .none] } } := by
  refine my_slice F N hlo hhi hz (fun h' t' tk F' N' => ?_) hs ht
  rw [hd]
  exact h h' t' tk F' N'
theorem my_item {lo : Int} {i : Nat} {x : UInt8} {r : B} (hlo : lo = (i : Int)) (hd : b.drop i = x :: r) (hz : b.length ≤ 16777216)
    (h : ∀ t' k, Q (.int (x.toNat : Int) t') { s with toks := k })
    (hs : subscripted slice false (.bytes b.toArray t) (.int lo u) = operate [.bytes b.toArray t, .int lo u] (getItem (.bytes b.toArray t) (.int lo u)) := by with_unfolding_all rfl)
    (ht : ∀ r, letTemporaryGo value (.bytes b.toArray t) r = pure () := by intro _; with_unfolding_all rfl) :
    wpAny (model prog w) A (subscriptTail value slice (.bytes b.toArray t) (.int lo u)) Q E s := by
  subst hlo
  have hl : i < b.length := by
    have := congrArg List.length hd
    simp at this
    omega
  have hx : b[i]? = some x := by
    have := congrArg List.head? hd
    simpa [List.head?_drop] using this
  have g : wpAny (model prog w) A (getItem (.bytes b.toArray t) (.int (i : Int) u)) Q E s := by
    refine getItem_bytes (by omega) (by omega) (by omega) ?_
    have e : b.getD (i : Int).toNat 0 = x := by simp [hx]
    rw [e]
    exact h _ _
  exact tail_of_ItemOn ⟨"bytes", _, FB.slot_bytes_getitem.lookup, typeIs_bytes _ _ _, g⟩ hs ht
theorem my_len (hz : b.length ≤ 1099511627776) (h : ∀ t' k, Q (.int (b.length : Int) t') { s with toks := k }) : wpAny (model prog w) A (call (.builtin "len") [.bytes b.toArray t]) Q E s := by
  refine len_bytes (by simpa using hz) ?_
  rw [List.size_toArray]
  exact h _ _
theorem my_add {a c : Nat} {k : Int} (hk : k = (c : Int)) (h : ∀ t' n, Q (.int ((a + c : Nat) : Int) t') { s with toks := n }) : wpAny (model prog w) A (binaryOp .Add (.int (a : Int) t) (.int k u)) Q E s := by
  subst hk
  exact PyProof.Rows.add_int (by simpa using h _ _)
theorem my_eqB (h : Q (.bool (b == c)) s) : wpAny (model prog w) A (compareOp .Eq (.bytes b.toArray t) (.bytes c.toArray u)) Q E s := eq_bytes (by simpa using h)
theorem my_neB (h : Q (.bool (b != c)) s) : wpAny (model prog w) A (compareOp .NotEq (.bytes b.toArray t) (.bytes c.toArray u)) Q E s := ne_bytes (by simpa using h)
end
end Mine
namespace Mine
theorem fresh_hdr : ite True True True := by
  try (walk1; fail)
  w_top off
  exact trivial
theorem filled_K : (fun (_ : OpenLaw) (_ : Params → Frag) => True) PySem.Challenge.rw_or0042_01 hd.heap_39 := by k_fill; trivial
local macro_rules | `(tactic| walk_at "call ref") => `(tactic| with_reducible refine stop ?_)
local macro_rules | `(tactic| walk_at "subscriptTail") => `(tactic| (k_here; (with_reducible show wpAny _ _ (subscriptTail _ (Expr.Slice _ _ none _) (Value.bytes (List.toArray _) _) (Value.ref _)) _ _ _); (with_reducible rename Fr _ _ _ _ => F'); (with_reducible rename News _ _ _ _ => N'); k_dflt (first | (refine my_slice_at (s := ⟨_, _, _, _, _⟩) F' N' (by exact rfl) (by exact rfl) (by assumption) (by omega) ?_) | (refine my_slice_d (s := ⟨_, _, _, _, _⟩) F' N' (by exact rfl) (by exact rfl) (by assumption) (by omega) ?_) | (refine my_slice (s := ⟨_, _, _, _, _⟩) F' N' (by exact rfl) (by exact rfl) (by omega) ?_)); intro _ _ _ _ _; (try simp only [Nat.add_sub_add_left, Nat.reduceSub, List.take_succ_cons, List.take_zero]); (try k_sweep)))
local macro_rules | `(tactic| walk_at "subscriptTail") => `(tactic| (k_here; (with_reducible show wpAny _ _ (subscriptTail _ _ (Value.bytes (List.toArray _) _) (Value.int _ _)) _ _ _); (k_dflt (refine my_item (by exact rfl) (by assumption) (by omega) ?_)); intro _ _))
local macro_rules | `(tactic| walk_at "call builtin:len") => `(tactic| (k_here; (with_reducible show wpAny _ _ (call (Value.builtin "len") [Value.bytes (List.toArray _) _]) _ _ _); k_dflt (refine my_len (by omega) ?_); intro _ _))
local macro_rules | `(tactic| walk_at "binaryOp Add int int") => `(tactic| (k_here; (with_reducible show wpAny _ _ (binaryOp Operator.Add (Value.int (Nat.cast _) _) (Value.int _ _)) _ _ _); k_dflt (refine my_add (by exact rfl) ?_); intro _ _))
local macro_rules | `(tactic| walk_at "compareOp Eq bytes bytes") => `(tactic| (k_here; (with_reducible show wpAny _ _ (compareOp CmpOp.Eq (Value.bytes (List.toArray _) _) (Value.bytes (List.toArray _) _)) _ _ _); (refine my_eqB ?_)))
local macro_rules | `(tactic| walk_at "compareOp NotEq bytes bytes") => `(tactic| (k_here; (with_reducible show wpAny _ _ (compareOp CmpOp.NotEq (Value.bytes (List.toArray _) _) (Value.bytes (List.toArray _) _)) _ _ _); (refine my_neB ?_)))
theorem fresh_B1 : ite True True True := by
  try (walk1; fail)
  w_top off
  exact trivial
section
section
open PySem.Builtin
theorem gives_contains_int (b : Array UInt8) (t : Tok) (i : Int) (u : Tok) (h0 : 0 ≤ i) (h1 : i < 256) : PySem.Gives («bytes.__contains__» ⟨[.bytes b t, .int i u], []⟩) (.val (.bool (b.contains i.toNat.toUInt8))) := by
  refine .of_wp fun M A E s Q hq => ?_
  show wpAny M A (Bytes.containsIn "bytes.__contains__" (.bytes b t) (.int i u) >>= fun r => _) _ E s
  refine wpAny_bind ?_
  unfold Bytes.containsIn
  refine wpAny_bind (wpAny_attempt (wpAny_of_eq (a := i) rfl ?_))
  refine wpAny_bind (wpAny_of_eq KBy.buffer_eq ?_)
  have hc : (decide (i < 0) || decide (i ≥ 256)) = false := by simp; omega
  show wpAny M A (if (decide (i < 0) || decide (i ≥ 256)) = true then _ else _) _ E s
  rw [hc]
  exact wpAny_pure (wpAny_pure ⟨_, rfl, hq⟩)
end
section
variable {prog : Program} {w : World} {A : Around} {E : Value → Shared → Prop} {s : Shared} {b c : B} {t u : Tok} {h₀ : Heap} {L : Addr} {m : Str → Option Value} {news : List (Addr × Obj)} {Q : Value → Shared → Prop}
theorem my_inI {i : Int} {x : UInt8} (hi : i = (x.toNat : Int)) (h : Q (.bool (b.contains x)) s) : wpAny (model prog w) A (compareOp .In (.int i u) (.bytes b.toArray t)) Q E s := by
  subst hi
  have hx : x.toNat < 256 := x.toNat_lt
  refine in_gives (typeIs_bytes s _ t) FB.slot_bytes_contains FB.entry_bytes_contains (FB.args_bytes_contains_2 _ _) (gives_contains_int b.toArray t _ u (by omega) (by omega)) ?_
  have e : ((x.toNat : Int).toNat.toUInt8) = x := by simp
  rw [e]
  simpa using h
end
section
open PySem.Builtin
set_option maxRecDepth 100000
theorem no_index_bytes : typeLookup (.type "bytes") "__index__" = pure none := by rw [typeLookup_type, builtinLookup_eq_fast]; kernel_rfl
theorem typeName_bytes : typeName (.type "bytes") = pure "bytes" := by unfold typeName; rw [find?_eq_fast]; kernel_rfl
theorem nameCut_bytes {M : Model} {A : Around} {E : Value → Shared → Prop} {s : Shared} {n : Nat} {c : Array UInt8} {t : Tok} {Q : String → Shared → Prop} (h : Q "bytes" s) : wpAny M A (typeNameOfCut n (.bytes c t)) Q E s := by
  unfold typeNameOfCut shownTypeOf
  refine wpAny_bind (wpAny_bind (wpAny_typeOf (typeIs_bytes s c t) ?_))
  simp only [show (Value.type "bytes" == Value.type "builtin_function_or_method") = false by decide, Bool.false_eq_true, if_false]
  refine wpAny_pure ?_
  rw [show typeNameCut n (.type "bytes") = typeName (.type "bytes") from rfl, typeName_bytes]; exact wpAny_pure h
noncomputable def findsIn (b c : Array UInt8) : PySem.Spec := fun A R s => A.handled = none ∧ ∀ h' tk, (∀ x o, s.heap.get? x = some o → h'.get? x = some o) → R (.ok (.ret (.bool (Bytes.find? b c 0 b.size).isSome))) { s with heap := h', toks := tk }
theorem meets_contains_bytes (b c : Array UInt8) (t u : Tok) : Meets («bytes.__contains__» ⟨[.bytes b t, .bytes c u], []⟩) (findsIn b c) := by
  refine .of_wp fun prog w A R s hS => ?_
  obtain ⟨hh, hR⟩ := hS
  show wpAny _ _ (Bytes.containsIn "bytes.__contains__" (.bytes b t) (.bytes c u) >>= fun r => _) _ _ s
  refine wpAny_bind ?_
  unfold Bytes.containsIn
  refine wpAny_bind (wpAny_attempt ?_)
  show wpAny _ _ (asIndex (.bytes c u)) _ _ s
  unfold asIndex
  refine wpAny_bind (wpAny_of_eq (a := none) rfl ?_)
  refine wpAny_bind (wpAny_callSpecial?_none (typeIs_bytes s c u) no_index_bytes ?_)
  refine wpAny_bind (nameCut_bytes ?_)
  refine wpAny_raiseErrorMade plainExc_TypeError hh (fun h' tk e hx => ?_) (by decide)
  refine wpAny_bind (wpAny_of_eq KBy.buffer_eq ?_)
  refine wpAny_bind (wpAny_of_eq KBy.buffer_eq ?_)
  refine wpAny_bind (wpAny_rule (wpAny_pure (wpAny_pure ⟨_, rfl, hR h' tk hx.keeps⟩)))
end
theorem find_one (b : B) (x : UInt8) : (PySem.Builtin.Bytes.find? b.toArray #[x] 0 b.length).isSome = b.contains x := by
  unfold PySem.Builtin.Bytes.find?
  rw [Bool.eq_iff_iff, List.find?_isSome]
  simp only [List.contains_iff_mem, List.mem_map, List.mem_range]
  constructor
  · rintro ⟨i, ⟨j, hj, rfl⟩, e⟩
    have e := beq_iff_eq.mp e
    have hj' : j < b.length := by simp at hj; omega
    have e2 := congrArg (fun a : Array UInt8 => a[0]?) e
    simp [Array.getElem?_extract, hj'] at e2
    rw [← e2]
    simp
  · intro hm
    obtain ⟨j, hj, e⟩ := List.getElem_of_mem hm
    refine ⟨j, ⟨j, by simp; omega, rfl⟩, ?_⟩
    rw [beq_iff_eq]
    apply Array.ext
    · simp; omega
    · intro i h1 h2
      simp at h2
      subst h2
      simp [e]
section
variable {prog : Program} {w : World} {A : Around} {E : Value → Shared → Prop} {s : Shared} {b c : B} {t u : Tok} {h₀ : Heap} {L : Addr} {m : Str → Option Value} {news : List (Addr × Obj)} {Q : Value → Shared → Prop}
theorem my_inB1 {x : UInt8} (F : Fr h₀ L s.heap m) (N : News h₀ L s.heap news) (hh : A.handled = none) (h : ∀ h' tk, Fr h₀ L h' m → News h₀ L h' news → Q (.bool (b.contains x)) { s with heap := h', toks := tk }) :
    wpAny (model prog w) A (compareOp .In (.bytes [x].toArray u) (.bytes b.toArray t)) Q E s := by
  show wpAny _ _ (do return .bool (← contains (.bytes b.toArray t) (.bytes [x].toArray u))) Q E s
  refine wpAny_bind (wpAny_contains_slot (typeIs_bytes s _ t) FB.slot_bytes_contains (call_meets FB.slot_bytes_contains (typeIs_bytes s _ t) FB.entry_bytes_contains (FB.args_bytes_contains_2 _ _) (meets_contains_bytes _ _ _ _) ⟨hh, fun h' tk hk => ?_⟩))
  refine wpAny_truthy_bool (wpAny_pure ?_)
  have e := find_one b x
  have := h h' tk (F.keptAll hk) (N.grown hk)
  rw [← e] at this
  simpa using this
end
end
theorem fresh_B2 : ite True True True := by
  try (walk1; fail)
  w_top off
  exact trivial
section
section
open PySem.Builtin PySem.Builtin.Bytes
noncomputable def bvals (items : List (B × Tok)) : List Value := items.map fun p => Value.bytes p.1.toArray p.2
noncomputable def btaken (items : List (B × Tok)) : List (Value × Option Value) := items.map fun p => (Value.bytes p.1.toArray p.2, none)
theorem take_eq {b : Array UInt8} {t : Tok} {id : String} : Bytes.takeBufferQuiet? id (.bytes b t) 0 = pure (some (b, none)) := by
  have e : Bytes.takeBuffer? id (.bytes b t) 0 = pure (some (b, none)) := by
    unfold Bytes.takeBuffer?
    rw [KBy.special_eq KBy.look_buffer, KBy.own_buffer]
    simp only [pure_bind]
    rw [show (0 == Bytes.fullReadOnly) = false from by decide +kernel]
    rw [KBy.buffer_eq]
    rfl
  unfold Bytes.takeBufferQuiet?
  rw [e]
  rfl
theorem taken_quiet (items : List (B × Tok)) : (btaken items).any (fun x => x.1.onHeap) = false := by
  unfold btaken
  rw [List.any_map]
  induction items with
  | nil => rfl
  | cons p r ih => rw [List.any_cons, ih]; rfl
theorem joinLetGo_quiet {M : Model} {A : Around} {E : Value → Shared → Prop} {s : Shared} {Q : Unit → Shared → Prop} (keep : List Value) (items : List (B × Tok)) (h : Q () s) : wpAny M A (joinLetGo (btaken items) keep) Q E s := by
  induction items generalizing s with
  | nil => exact wpAny_pure h
  | cons p r ih =>
    show wpAny M A (joinLetGo ((Value.bytes p.1.toArray p.2, none) :: btaken r) keep) Q E s
    unfold joinLetGo
    show wpAny M A (do letGo [Value.bytes p.1.toArray p.2] _; joinLetGo (btaken r) keep) Q E s
    exact wpAny_bind (wpAny_letGo (ih h))
theorem meets_join (sep : Array UInt8) (t : Tok) (a : Addr) (items : List (B × Tok)) : Meets («bytes.join» ⟨[.bytes sep t, .ref a], []⟩) (fun A R s =>
    (∃ o n, s.heap.get? a = some o ∧ o.cls = .type "list" ∧ o.data = .seq (bvals items).toArray n) ∧ (∀ ps : Array (Array UInt8), ps.toList = items.map (fun p => p.1.toArray) → tooLong (Array.foldl (fun x1 x2 => x1 + x2.size) (sep.size * (ps.size - 1)) ps) = false) ∧ (Bytes.joined sep (items.map fun p => p.1.toArray)).size ≤ sizeLine ∧
    ∀ t' k, R (.ok (.ret (.bytes (Bytes.joined sep (items.map fun p => p.1.toArray)) t'))) { s with toks := k }) := by
  refine .of_wp fun prog w A R s hS => ?_
  obtain ⟨⟨o, n, ho, hc, hd⟩, hlong, hz, hR⟩ := hS
  have hT : s.TypeIs (.ref a) "list" := ⟨o, ho, hc⟩
  unfold «bytes.join» Bytes.joinM
  refine wpAny_bind (wpAny_of_eq (a := (Value.bytes sep t, Value.ref a)) rfl ?_)
  refine wpAny_bind ?_
  unfold Bytes.joinItems
  refine wpAny_bind (wpAny_typeOf hT (wpAny_pure ?_))
  refine wpAny_bind (wpAny_seqItems ho hd ?_)
  have last : ∀ (parts : Array (Array UInt8)) (taken : List (Value × Option Value)), parts.toList = items.map (fun p => p.1.toArray) → taken = btaken items →
      wpAny (model prog w) A.in1 (do
        let sep ← payload (Value.bytes sep t)
        if tooLong (Array.foldl (fun x1 x2 => x1 + x2.size) (sep.size * (parts.size - 1)) parts) = true then
          let _ ← (unsupported (toString (toString Kind.bytes.name ++ toString ".join") ++ toString ":memory") : Sem Unit)
          let result ← Kind.bytes.new (joined sep parts.toList)
          holding (result :: taken.flatMap fun (y, u) => y :: u.toList) point
          joinLetGo taken [result]
          ret result
        else
          let result ← Kind.bytes.new (joined sep parts.toList)
          holding (result :: taken.flatMap fun (y, u) => y :: u.toList) point
          joinLetGo taken [result]
          ret result) (fun fin s' => ∃ v, fin = Fin.done (Flow.ret v) ∧ R (Except.ok (Flow.ret v)) s') (fun e s' => R (Except.error e) s') s := by
    intro parts taken hp ht
    refine wpAny_bind (wpAny_of_eq (a := sep) rfl ?_)
    rw [hlong parts hp]
    show wpAny _ _ (Kind.bytes.new (joined sep parts.toList) >>= fun result => _) _ _ s
    rw [hp, ht]
    refine wpAny_bind (wpAny_mkBytes ?_ hz)
    refine wpAny_bind (wpAny_holding (wpAny_point ?_))
    refine wpAny_bind (joinLetGo_quiet _ _ ?_)
    exact wpAny_pure ⟨_, rfl, hR _ _⟩
  rcases items with _ | ⟨p, _ | ⟨q, r⟩⟩
  rotate_left
  · with_unfolding_all refine wpAny_bind ?_
    refine wpAny_typeOf (typeIs_bytes s p.1.toArray p.2) ?_
    show wpAny _ _ (rule "bytes.join.one-item" >>= fun _ => ret (.bytes p.1.toArray p.2)) _ _ s
    refine wpAny_bind (wpAny_rule (wpAny_pure ⟨_, rfl, ?_⟩))
    have e : joined sep (List.map (fun p => List.toArray p.1) [p]) = p.1.toArray := by simp [joined]
    have := hR p.2 s.toks
    rw [e] at this
    exact this
  · with_unfolding_all refine wpAny_bind ?_
    rw [Std.Legacy.Range.forIn_eq_forIn_range']
    have hsz : ([0:(bvals ((p :: q :: r))).toArray.size] : Std.Legacy.Range).size = ((p :: q :: r)).length := by simp [Std.Legacy.Range.size, bvals]
    show wpAny _ _ (forIn (List.range' 0 ([0:(bvals ((p :: q :: r))).toArray.size] : Std.Legacy.Range).size 1) _ _) _ _ s
    rw [hsz]
    refine wpAny_forIn_list _ (fun rest b s' => s' = s ∧ ∃ i, i ≤ ((p :: q :: r)).length ∧ rest = List.range' i (((p :: q :: r)).length - i) ∧ b.1.toList = (((p :: q :: r)).take i).map (fun p => p.1.toArray) ∧ b.2 = btaken (((p :: q :: r)).take i)) _ ?_ ?_ _ _ ⟨rfl, 0, Nat.zero_le _, by simp, rfl, rfl⟩
    · rintro x rest ⟨parts, taken⟩ s' ⟨rfl, i, hi, hr, hp, ht⟩
      have hlt : i < ((p :: q :: r)).length := by
        rcases Nat.lt_or_ge i ((p :: q :: r)).length with h | h
        · exact h
        · rw [Nat.sub_eq_zero_of_le h] at hr; cases hr
      obtain ⟨k, hk⟩ : ∃ k, ((p :: q :: r)).length - i = k + 1 := ⟨((p :: q :: r)).length - i - 1, by omega⟩
      rw [hk, List.range'_succ] at hr
      injection hr with h1 h2
      subst h1
      subst ht
      refine wpAny_bind (wpAny_seqItems ho hd ?_)
      rw [taken_quiet]
      have hx : (bvals ((p :: q :: r))).toArray.getD x .none = .bytes (((p :: q :: r))[x]).1.toArray (((p :: q :: r))[x]).2 := by
        simp only [bvals, Array.getD_eq_getD_getElem?, List.getElem?_toArray, List.getElem?_map]
        rw [List.getElem?_eq_getElem hlt]
        rfl
      show wpAny _ _ (holding _ (takeBufferQuiet? _ ((bvals ((p :: q :: r))).toArray.getD x .none) 0) >>= _) _ _ _
      rw [hx]
      refine wpAny_bind (wpAny_holding (wpAny_of_eq take_eq ?_))
      refine wpAny_bind (wpAny_seqItems ho hd ?_)
      show wpAny _ _ (if ((bvals ((p :: q :: r))).toArray.size != (bvals ((p :: q :: r))).toArray.size) = true then _ else _) _ _ _
      rw [if_neg (by simp)]
      refine wpAny_pure ⟨rfl, x + 1, hlt, ?_, ?_, ?_⟩
      · rw [h2, show ((p :: q :: r)).length - (x + 1) = k by omega]
      · rw [Array.toList_push, hp, List.take_add_one, List.getElem?_eq_getElem hlt, List.map_append]
        rfl
      · show btaken _ ++ _ = btaken _
        unfold btaken
        rw [List.take_add_one, List.getElem?_eq_getElem hlt, List.map_append]
        rfl
    · rintro ⟨parts, taken⟩ s' ⟨rfl, i, hi, hr, hp, ht⟩
      have hge : ((p :: q :: r)).length ≤ i := by
        rcases Nat.lt_or_ge i ((p :: q :: r)).length with h | h
        · obtain ⟨k, hk⟩ : ∃ k, ((p :: q :: r)).length - i = k + 1 := ⟨((p :: q :: r)).length - i - 1, by omega⟩
          rw [hk, List.range'_succ] at hr
          cases hr
        · exact h
      rw [List.take_of_length_le hge] at hp ht
      exact last parts taken hp ht
  · with_unfolding_all refine wpAny_bind ?_
    rw [Std.Legacy.Range.forIn_eq_forIn_range']
    have hsz : ([0:(bvals (([] : List (B × Tok)))).toArray.size] : Std.Legacy.Range).size = (([] : List (B × Tok))).length := by simp [Std.Legacy.Range.size, bvals]
    show wpAny _ _ (forIn (List.range' 0 ([0:(bvals (([] : List (B × Tok)))).toArray.size] : Std.Legacy.Range).size 1) _ _) _ _ s
    rw [hsz]
    refine wpAny_forIn_list _ (fun rest b s' => s' = s ∧ ∃ i, i ≤ (([] : List (B × Tok))).length ∧ rest = List.range' i ((([] : List (B × Tok))).length - i) ∧ b.1.toList = ((([] : List (B × Tok))).take i).map (fun p => p.1.toArray) ∧ b.2 = btaken ((([] : List (B × Tok))).take i)) _ ?_ ?_ _ _ ⟨rfl, 0, Nat.zero_le _, by simp, rfl, rfl⟩
    · rintro x rest ⟨parts, taken⟩ s' ⟨rfl, i, hi, hr, hp, ht⟩
      have hlt : i < (([] : List (B × Tok))).length := by
        rcases Nat.lt_or_ge i (([] : List (B × Tok))).length with h | h
        · exact h
        · rw [Nat.sub_eq_zero_of_le h] at hr; cases hr
      obtain ⟨k, hk⟩ : ∃ k, (([] : List (B × Tok))).length - i = k + 1 := ⟨(([] : List (B × Tok))).length - i - 1, by omega⟩
      rw [hk, List.range'_succ] at hr
      injection hr with h1 h2
      subst h1
      subst ht
      refine wpAny_bind (wpAny_seqItems ho hd ?_)
      rw [taken_quiet]
      have hx : (bvals (([] : List (B × Tok)))).toArray.getD x .none = .bytes ((([] : List (B × Tok)))[x]).1.toArray ((([] : List (B × Tok)))[x]).2 := by
        simp only [bvals, Array.getD_eq_getD_getElem?, List.getElem?_toArray, List.getElem?_map]
        rw [List.getElem?_eq_getElem hlt]
        rfl
      show wpAny _ _ (holding _ (takeBufferQuiet? _ ((bvals (([] : List (B × Tok)))).toArray.getD x .none) 0) >>= _) _ _ _
      rw [hx]
      refine wpAny_bind (wpAny_holding (wpAny_of_eq take_eq ?_))
      refine wpAny_bind (wpAny_seqItems ho hd ?_)
      show wpAny _ _ (if ((bvals (([] : List (B × Tok)))).toArray.size != (bvals (([] : List (B × Tok)))).toArray.size) = true then _ else _) _ _ _
      rw [if_neg (by simp)]
      refine wpAny_pure ⟨rfl, x + 1, hlt, ?_, ?_, ?_⟩
      · rw [h2, show (([] : List (B × Tok))).length - (x + 1) = k by omega]
      · rw [Array.toList_push, hp, List.take_add_one, List.getElem?_eq_getElem hlt, List.map_append]
        rfl
      · show btaken _ ++ _ = btaken _
        unfold btaken
        rw [List.take_add_one, List.getElem?_eq_getElem hlt, List.map_append]
        rfl
    · rintro ⟨parts, taken⟩ s' ⟨rfl, i, hi, hr, hp, ht⟩
      have hge : (([] : List (B × Tok))).length ≤ i := by
        rcases Nat.lt_or_ge i (([] : List (B × Tok))).length with h | h
        · obtain ⟨k, hk⟩ : ∃ k, (([] : List (B × Tok))).length - i = k + 1 := ⟨(([] : List (B × Tok))).length - i - 1, by omega⟩
          rw [hk, List.range'_succ] at hr
          cases hr
        · exact h
      rw [List.take_of_length_le hge] at hp ht
      exact last parts taken hp ht
end
end
theorem fresh_B3 : ite True True True := by
  try (walk1; fail)
  w_top off
  exact trivial
section
section
open PySem.Builtin PySem.Builtin.Bytes
set_option maxRecDepth 100000
theorem slot_bytes_join : Slot "bytes" "join" "bytes.join" :=
  .of (owner := "bytes") (n := "join") (by rw [typeLookup_type, builtinLookup_eq_fast]; kernel_rfl) (by decide +kernel) (by decide +kernel) (by decide +kernel)
    (by first | exact .inl (by decide +kernel) | exact .inr (by decide +kernel)) (by rw [isSubtype_type]; kernel_rfl)
theorem type_bytes_join : typeOf (.builtin "bytes.join") = pure (.type "method_descriptor") := by show builtinType _ = _; rw [builtinType_eq_fast]; kernel_rfl
theorem entry_bytes_join : entryFor table "bytes.join" = some Builtin.«bytes.join» := entryFor_of_tree (by kernel_rfl)
theorem args_bytes_join_2 (a b : Value) : argsOk "bytes.join" ⟨[a, b], []⟩ := by
  unfold argsOk; rw [signature?_of (id := "bytes.join") (n := ['n', 'i', 'o', 'j']) (o := ['s', 'e', 't', 'y', 'b']) (by kernel_rfl) FB.owner_bytes]; kernel_rfl
noncomputable def jn (sep : B) : List B → B
  | [] => []
  | p :: r => p ++ r.flatMap (fun q => sep ++ q)
theorem joined_more (sep : B) : ∀ (ps : List B) (i : Nat) (out : Array UInt8), 0 < i →
    ((ps.map List.toArray).zipIdx i).foldl (fun (out : Array UInt8) (x : Array UInt8 × Nat) => (if x.2 > 0 then out ++ sep.toArray else out) ++ x.1) out = out ++ (ps.flatMap (fun q => sep ++ q)).toArray
  | [], i, out, _ => by simp
  | p :: r, i, out, hi => by
    simp only [List.map_cons, List.zipIdx_cons, List.foldl_cons, List.flatMap_cons]
    rw [joined_more sep r (i + 1) _ (Nat.succ_pos _), if_pos hi]
    apply Array.ext'
    simp
theorem joined_eq (sep : B) (ps : List B) : joined sep.toArray (ps.map List.toArray) = (jn sep ps).toArray := by
  unfold joined
  cases ps with
  | nil => rfl
  | cons p r =>
    simp only [List.map_cons, List.zipIdx_cons, List.foldl_cons]
    have := joined_more sep r (0 + 1) ((if 0 > 0 then #[] ++ sep.toArray else #[]) ++ p.toArray) (Nat.succ_pos _)
    refine this.trans ?_
    apply Array.ext'
    simp [jn]
noncomputable def jsize (sep : B) (ps : List B) : Nat := sep.length * (ps.length - 1) + (ps.map List.length).sum
theorem sizes_sum : ∀ (ps : List B) (k : Nat), (ps.map List.toArray).foldl (fun x1 (x2 : Array UInt8) => x1 + x2.size) k = k + (ps.map List.length).sum
  | [], k => by simp
  | p :: r, k => by
    simp only [List.map_cons, List.foldl_cons, List.sum_cons]
    rw [sizes_sum r]
    simp
    omega
theorem jn_length (sep : B) (ps : List B) : (jn sep ps).length = jsize sep ps := by
  cases ps with
  | nil => simp [jn, jsize]
  | cons p r =>
    have e : ∀ r : List B, (r.flatMap (fun q => sep ++ q)).length = sep.length * r.length + (r.map List.length).sum := by
      intro r
      induction r with
      | nil => simp
      | cons q r ih =>
        simp only [List.flatMap_cons, List.length_append, List.length_cons, List.map_cons, List.sum_cons, ih]
        rw [Nat.mul_succ]
        omega
    simp only [jn, jsize, List.length_append, e, List.length_cons, List.map_cons, List.sum_cons, Nat.add_sub_cancel]
    omega
end
section
variable {prog : Program} {w : World} {A : Around} {E : Value → Shared → Prop} {s : Shared} {b c : B} {t u : Tok} {h₀ : Heap} {L : Addr} {m : Str → Option Value} {news : List (Addr × Obj)} {Q : Value → Shared → Prop}
theorem my_getjoin {pl : Sem Bool} {Q : Value × List Value → Shared → Prop} (h : Q (.builtin "bytes.join", [.bytes b.toArray t]) s) : wpAny (model prog w) A (getMethod (.bytes b.toArray t) "join" pl) Q E s :=
  getMethod_builtin (typeIs_bytes _ _ _) FB.plainAttrs_bytes slot_bytes_join type_bytes_join (fun _ e => nomatch e) h
theorem my_join {a : Addr} {n : Nat} {items : List (B × Tok)} (N : News h₀ L s.heap news) (hm : (a, listOf (bvals items).toArray n) ∈ news) (hz : jsize b (items.map (·.1)) ≤ 16777216)
    (h : ∀ t' k, Q (.bytes (jn b (items.map (·.1))).toArray t') { s with toks := k }) : wpAny (model prog w) A (call (.builtin "bytes.join") [.bytes b.toArray t, .ref a]) Q E s := by
  have e : Builtin.Bytes.joined b.toArray (items.map fun p => p.1.toArray) = (jn b (items.map (·.1))).toArray := by
    rw [← joined_eq, List.map_map]
    rfl
  refine call_meets slot_bytes_join (typeIs_bytes _ _ _) entry_bytes_join (args_bytes_join_2 _ _) (meets_join b.toArray t a items) ⟨⟨_, n, (N _ hm).1, rfl, rfl⟩, fun ps hps => ?_, ?_, fun t' k => ?_⟩
  · have e2 : ps.toList = (items.map (·.1)).map List.toArray := by rw [hps, List.map_map]; rfl
    have e3 := sizes_sum (items.map (·.1)) (b.toArray.size * (ps.size - 1))
    rw [← e2] at e3
    rw [← Array.foldl_toList, e3]
    refine KBy.tooLong_not ?_
    unfold jsize at hz
    have e4 : ps.size = (items.map (·.1)).length := by rw [← Array.length_toList, e2]; simp
    rw [e4]
    simpa using hz
  · rw [e, sizeLine_eq, List.size_toArray, jn_length]
    exact hz
  · show Q _ _
    rw [e]
    exact h t' k
theorem my_joinE {a : Addr} {n : Nat} {items : List (B × Tok)} {y : B} (N : News h₀ L s.heap news) (hm : (a, listOf (bvals items).toArray n) ∈ news) (e : jn b (items.map (·.1)) = y) (hz : y.length ≤ 16777216)
    (h : ∀ t' k, Q (.bytes y.toArray t') { s with toks := k }) : wpAny (model prog w) A (call (.builtin "bytes.join") [.bytes b.toArray t, .ref a]) Q E s := by
  subst e
  exact my_join N hm (by rw [← jn_length]; exact hz) h
end
theorem bvals_snoc (items : List (B × Tok)) (c : B) (t : Tok) : (bvals (items ++ [(c, t)])).toArray = (bvals items).toArray.push (.bytes c.toArray t) := by
  simp [bvals]
theorem jn_ones : ∀ w : B, jn [] (w.map fun c => [c]) = w
  | [] => rfl
  | c :: w => by
    simp only [jn, List.map_cons, List.nil_append, List.flatMap_map]
    simp
theorem jn_flat (ps : List B) : jn [] ps = ps.flatten := by
  cases ps with
  | nil => rfl
  | cons p r => simp [jn, List.flatMap, List.flatten_cons]
end
theorem fresh_B4 : ite True True True := by
  try (walk1; fail)
  w_top off
  exact trivial
section
/-- what the frame holds, name by name -/
noncomputable def AllAt (m : Str → Option Value) : List (Str × Value) → Prop
  | [] => True
  | p :: r => m p.1 = some p.2 ∧ AllAt m r
theorem AllAt.mem {m : Str → Option Value} : ∀ {ps : List (Str × Value)}, AllAt m ps → ∀ p ∈ ps, m p.1 = some p.2
  | _ :: _, h, p, hp => by
    rcases List.mem_cons.mp hp with rfl | hp
    · exact h.1
    · exact AllAt.mem h.2 p hp
theorem ats {h₀ h : Heap} {L : Addr} {m : Str → Option Value} {ps : List (Str × Value)} (F : Fr h₀ L h m) (e : AllAt m ps) : Fr h₀ L h (kstB m ps) := by
  have em : kstB m ps = m := by
    funext y
    exact kstB_eq e.mem fun _ => rfl
  rw [em]; exact F
section
variable {prog : Program} {w : World} {A : Around} {E : Value → Shared → Prop} {s : Shared} {b c : B} {t u : Tok} {h₀ : Heap} {L : Addr} {m : Str → Option Value} {news : List (Addr × Obj)} {Q : Value → Shared → Prop}
theorem never_in {K : Frag} {a : Addr} {dd : Option Addr} {n : Nat} {sl : Array (Option Value)} {t0 t1 t2 : Tok} {i : Int} (F : Fr h₀ L s.heap m) (X : K.In h₀)
    (hl : K.lookup a = some ⟨.type "tuple", dd, .seq [Value.int 0 t0, Value.int 10 t1, Value.int 13 t2].toArray n, sl⟩) (hu : A.units + 8 < cLine)
    (h : Q (.bool (decide (i = 0) || decide (i = 10) || decide (i = 13))) s) : wpAny (model prog w) A (compareOp .In (.int i u) (.ref a)) Q E s := by
  have ho := F.keep _ _ (X _ _ hl)
  refine SeqAt.in_tuple_reads (xs := [.int 0, .int 10, .int 13]) (d := .int i) (reads_tuple_at ho rfl rfl (.cons (.int _ _) (.cons (.int _ _) (.cons (.int _ _) .nil)))) (.int i u) rfl rfl ?_ ?_
  · have : min (PyData.depthAll [.int 0, .int 10, .int 13]) (PyData.int i).depth ≤ 6 := by
      refine Nat.le_trans (Nat.min_le_left _ _) ?_
      decide
    omega
  · have e : ([PyData.int 0, .int 10, .int 13].any fun y => PyData.eqv y (.int i)) = (decide (i = 0) || decide (i = 10) || decide (i = 13)) := by
      simp only [List.any_cons, List.any_nil, PyData.eqv, Bool.or_false, Bool.or_assoc]
      rw [Bool.eq_iff_iff]
      simp only [Bool.or_eq_true, beq_iff_eq, decide_eq_true_eq]
      omega
    rw [e]
    exact h
theorem never_no {K : Frag} {a : Addr} {dd : Option Addr} {n : Nat} {sl : Array (Option Value)} {t0 t1 t2 : Tok} {i : Int} (F : Fr h₀ L s.heap m) (X : K.In h₀)
    (hl : K.lookup a = some ⟨.type "tuple", dd, .seq [Value.int 0 t0, Value.int 10 t1, Value.int 13 t2].toArray n, sl⟩) (hu : A.units + 8 < cLine) (hi : i ≠ 0 ∧ i ≠ 10 ∧ i ≠ 13)
    (h : Q (.bool false) s) : wpAny (model prog w) A (compareOp .In (.int i u) (.ref a)) Q E s := by
  refine never_in F X hl hu ?_
  rw [decide_eq_false hi.1, decide_eq_false hi.2.1, decide_eq_false hi.2.2]
  exact h
theorem never_yes {K : Frag} {a : Addr} {dd : Option Addr} {n : Nat} {sl : Array (Option Value)} {t0 t1 t2 : Tok} {i : Int} (F : Fr h₀ L s.heap m) (X : K.In h₀)
    (hl : K.lookup a = some ⟨.type "tuple", dd, .seq [Value.int 0 t0, Value.int 10 t1, Value.int 13 t2].toArray n, sl⟩) (hu : A.units + 8 < cLine) (hi : i = 0 ∨ i = 10 ∨ i = 13)
    (h : Q (.bool true) s) : wpAny (model prog w) A (compareOp .In (.int i u) (.ref a)) Q E s := by
  refine never_in F X hl hu ?_
  have e : (decide (i = 0) || decide (i = 10) || decide (i = 13)) = true := by
    simp only [Bool.or_eq_true, decide_eq_true_eq]
    omega
  rw [e]
  exact h
end
section
variable {prog : Program} {w : World} {A : Around} {E : Value → Shared → Prop} {s : Shared} {h₀ : Heap} {L : Addr} {m : Str → Option Value} {nx rest : List (Addr × Obj)} {Q : Value → Shared → Prop}
theorem my_append_ne {l : Addr} {its : Array Value} {n : Nat} {x : Value} (F : Fr h₀ L s.heap m) (N : News h₀ L s.heap nx) (hm : (l, listOf its n) ∈ nx) (hne : ∀ p ∈ rest, p.1 ≠ l) (hr : ∀ p ∈ rest, p ∈ nx) (hsz : its.size ≤ 16777216)
    (h : ∀ h', Fr h₀ L h' m → News h₀ L h' ((l, listOf (its.push x) (n + 1)) :: rest) → Q .none { s with heap := h' }) : wpAny (model prog w) A (call (.builtin "list.append") [.ref l, x]) Q E s := by
  have N' : News h₀ L s.heap ((l, listOf its n) :: rest) := fun p hp => by
    rcases List.mem_cons.mp hp with rfl | hp
    · exact N _ hm
    · exact N p (hr p hp)
  exact append_K (hsz := by rw [sizeLine_eq]; exact hsz) F N' (Upd.head hne) h
theorem my_append {l : Addr} {its : Array Value} {n : Nat} {x : Value} (F : Fr h₀ L s.heap m) (N : News h₀ L s.heap nx) (hm : (l, listOf its n) ∈ nx) (hlt : ∀ p ∈ rest, p.1 < l) (hr : ∀ p ∈ rest, p ∈ nx) (hsz : its.size ≤ 16777216)
    (h : ∀ h', Fr h₀ L h' m → News h₀ L h' ((l, listOf (its.push x) (n + 1)) :: rest) → Q .none { s with heap := h' }) : wpAny (model prog w) A (call (.builtin "list.append") [.ref l, x]) Q E s :=
  my_append_ne F N hm (fun p hp => Nat.ne_of_lt (hlt p hp)) hr hsz h
theorem bvals_size (items : List (B × Tok)) : (bvals items).toArray.size = items.length := by simp [bvals]
end
theorem news_skip2 {x y : Addr × Obj} {r : List (Addr × Obj)} : ∀ p ∈ x :: r, p ∈ x :: y :: r := fun p hp => by
  rcases List.mem_cons.mp hp with rfl | hp
  · exact .head _
  · exact .tail _ (.tail _ hp)
theorem fin_ret {h₀ : Heap} {L : Addr} {m : Str → Option Value} {s : Shared} {Q : Value → Shared → Prop} {Post : Value → List (Addr × Obj) → Prop}
    (hret : ∀ v news' h' tk', Post v news' → Fr h₀ L h' m → News h₀ L h' news' → Q v { s with heap := h', toks := tk' }) {v : Value} {h' : Heap} {tk' : Nat} {news₁ : List (Addr × Obj)}
    (news' : List (Addr × Obj)) (N : News h₀ L h' news₁) (F : Fr h₀ L h' m) (hs : ∀ p ∈ news', p ∈ news₁) (p : Post v news') : Q v { s with heap := h', toks := tk' } :=
  hret v news' h' tk' p F (kst_newsOf N hs)
section
variable {prog : Program} {w : World} {A : Around} {E : Value → Shared → Prop} {s : Shared} {h₀ : Heap} {L : Addr} {m : Str → Option Value} {news : List (Addr × Obj)} {value slice : PySem.Expr} {Q : Value → Shared → Prop}
theorem my_butlast {l : Addr} {k : Nat} {items : List (B × Tok)} {x : B × Tok} {t : Tok} (F : Fr h₀ L s.heap m) (N : News h₀ L s.heap news) (hm : (l, listOf (bvals (items ++ [x])).toArray k) ∈ news) (hz : items.length ≤ 1000000)
    (h : ∀ D h', Fr h₀ L h' m → News h₀ L h' ((D, listOf (bvals items).toArray 0) :: news) → (∀ p ∈ news, p.1 < D) → Q (.ref D) { s with heap := h' })
    (hs : subscripted slice false (.ref l) (.ref s.heap.objs.size) = operate [.ref s.heap.objs.size, .ref l] (getItem (.ref l) (.ref s.heap.objs.size)) := by with_unfolding_all rfl) (ht : ∀ r, letTemporaryGo value (.ref l) r = pure () := by intro _; with_unfolding_all rfl) :
    wpAny (model prog w) A (subscriptTail value slice (.ref l) (.ref s.heap.objs.size)) Q E { s with heap := s.heap.push { cls := .type "slice", data := .fields #[.none, .int (-1) t, .none] } } := by
  refine kms_slice_lit (lo := none) (hi := some (-1)) (its := (bvals (items ++ [x])).toArray) F N ⟨_, (N _ hm).1, rfl, k, rfl⟩ (by constructor) (by constructor) ?_ h hs ht ?_
  · unfold kms_pick kms_lo kms_hi
    simp [bvals]
  · rw [bvals_size, sizeLine_eq, List.length_append]
    simp only [List.length_cons, List.length_nil]
    omega
end
theorem news_skip3 {x y z : Addr × Obj} {r : List (Addr × Obj)} : ∀ p ∈ x :: r, p ∈ x :: y :: z :: r := fun p hp => by
  rcases List.mem_cons.mp hp with rfl | hp
  · exact .head _
  · exact .tail _ (.tail _ (.tail _ hp))
theorem news_skip23 {x y z : Addr × Obj} {r : List (Addr × Obj)} : ∀ p ∈ x :: y :: r, p ∈ x :: y :: z :: r := fun p hp => by
  rcases List.mem_cons.mp hp with rfl | hp
  · exact .head _
  · exact .tail _ (news_skip2 p hp)
end
theorem fresh_B5 : ite True True True := by
  try (walk1; fail)
  w_top off
  exact trivial
section
section
variable {prog : Program} {w : World} {A : Around} {E : Value → Shared → Prop} {s : Shared} {env : Env} {h₀ : Heap} {x : Str} {body : List Stmt} {Q : Flow → Shared → Prop}
/-- a loop over range(n): any state between the turns -/
theorem my_range {r : Addr} {b₀ : Int} {t₀ u₀ v₀ : Tok} {n : Nat} {m₀ : Str → Option Value} {news : List (Addr × Obj)} (J : Nat → (Str → Option Value) → List (Addr × Obj) → Prop)
    (hh : A.handled = none) (hr : IsRange s.heap r 0 b₀ 1 t₀ u₀ v₀) (hb : b₀ = (n : Int)) (hn : n ≤ 1000000) (F : Fr h₀ env.locals s.heap m₀) (N : News h₀ env.locals s.heap news) (hj : J 0 m₀ news)
    (turn : ∀ i t m₁ nx h tk own, i < n → OwnOff own (nx.map (·.1)) → J i m₁ nx → Fr h₀ env.locals h (fun y => if y = x then some (.int (i : Int) t) else m₁ y) → News h₀ env.locals h (nx ++ own) →
      wpAny (model prog w) A (execs body env) (InvPostG h₀ env.locals (J (i + 1)) own { s with heap := h, toks := tk } Q) E { s with heap := h, toks := tk })
    (done : ∀ m₁ nx h tk, J n m₁ nx → Fr h₀ env.locals h m₁ → News h₀ env.locals h nx → Q .next { s with heap := h, toks := tk }) :
    wpAny (model prog w) A (pyIter (.ref r)) (fun it s₂ => LoopAtV prog w A h₀ env x body Q E it s₂) E s := by
  subst hb
  have hsz : Builtin.Range.rangeSize 0 (n : Int) 1 = (n : Int) := by first | exact rangeSize_nat _ _ | (simp [Builtin.Range.rangeSize]; done)
  have hsmall : Builtin.Range.small 0 (n : Int) 1 = true := small_one (by omega) (by omega) (by omega) (by omega)
  refine wpAny_pyIter_range hr hsmall ?_
  have W : Walks prog w A s.heap.objs.size [s.heap.objs.size] [s.heap.objs.size] n (fun i v => i < n ∧ ∃ t, v = .int (0 + i * 1) t)
      (fun i h => IsRangeIter h s.heap.objs.size (0 + (i : Nat) * 1) ((n : Int) - (i : Nat)) 1) := (Walks.range hh _ 0 1 n).bound
  refine kdr_loop J W (fun _ h => h) (fun _ h => h) ?_ ?_ ?_ ?_ (by show IsRangeIter _ _ _ _ _; rw [hsz]; simpa using Heap.get?_push_size _ rfl) (F.push _) (fun p hp => ⟨Heap.get?_push_of_some _ (N p hp).1, (N p hp).2⟩) hj ?_ ?_
  · intro i h hi b hb
    rw [List.mem_singleton.mp hb]
    exact ⟨_, hi⟩
  · intro hm
    exact absurd F.ns.lt ((List.mem_singleton.mp hm) ▸ Nat.lt_irrefl _)
  · intro b hb
    rw [List.mem_singleton.mp hb]
    exact next_is_new F
  · intro p hp hI
    exact absurd (Heap.lt_size (N p hp).1) ((List.mem_singleton.mp hI) ▸ Nat.lt_irrefl _)
  · rintro i v m₁ nx h tk own hi ⟨_, t, rfl⟩ hoff hJ F₁ N₁
    have e1 : (0 : Int) + (i : Int) * 1 = (i : Int) := by omega
    rw [e1] at F₁
    exact turn i t m₁ nx h tk own hi hoff hJ F₁ N₁
  · exact done
/-- a loop over bytes: any state between the turns -/
theorem my_bytesFor {b : B} {tb : Tok} {m₀ : Str → Option Value} {news : List (Addr × Obj)} (J : Nat → (Str → Option Value) → List (Addr × Obj) → Prop)
    (hh : A.handled = none) (F : Fr h₀ env.locals s.heap m₀) (N : News h₀ env.locals s.heap news) (hj : J 0 m₀ news)
    (turn : ∀ i c t m₁ nx h tk own, b[i]? = some c → OwnOff own (nx.map (·.1)) → J i m₁ nx → Fr h₀ env.locals h (fun y => if y = x then some (.int (c.toNat : Int) t) else m₁ y) → News h₀ env.locals h (nx ++ own) →
      wpAny (model prog w) A (execs body env) (InvPostG h₀ env.locals (J (i + 1)) own { s with heap := h, toks := tk } Q) E { s with heap := h, toks := tk })
    (done : ∀ m₁ nx h tk, J b.length m₁ nx → Fr h₀ env.locals h m₁ → News h₀ env.locals h nx → Q .next { s with heap := h, toks := tk }) :
    wpAny (model prog w) A (pyIter (.bytes b.toArray tb)) (fun it s₂ => LoopAtV prog w A h₀ env x body Q E it s₂) E s := by
  refine KBw.pyIter_bytes ?_
  have W := KBw.walks (prog := prog) (w := w) hh s.heap.objs.size b.toArray tb
  have hl : b.toArray.size = b.length := by simp
  rw [hl] at W
  refine kdr_loop J W (fun _ h => h) (fun _ h => h) ?_ ?_ ?_ ?_ ⟨_, Heap.get?_push_size _ rfl, rfl, rfl⟩ (F.push _) (fun p hp => ⟨Heap.get?_push_of_some _ (N p hp).1, (N p hp).2⟩) hj ?_ ?_
  · rintro i h ⟨o, ho, _⟩ b hb
    rw [List.mem_singleton.mp hb]
    exact ⟨_, ho⟩
  · intro hm
    exact absurd F.ns.lt ((List.mem_singleton.mp hm) ▸ Nat.lt_irrefl _)
  · intro b hb
    rw [List.mem_singleton.mp hb]
    exact next_is_new F
  · intro p hp hI
    exact absurd (Heap.lt_size (N p hp).1) ((List.mem_singleton.mp hI) ▸ Nat.lt_irrefl _)
  · rintro i v m₁ nx h tk own hi ⟨c, t, hc, rfl⟩ hoff hJ F₁ N₁
    exact turn i c t m₁ nx h tk own (by simpa using hc) hoff hJ F₁ N₁
  · exact done
end
section
variable {prog : Program} {w : World} {A : Around} {E : Value → Shared → Prop} {s : Shared} {b c : B} {t u : Tok} {Q : Value → Shared → Prop}
theorem my_addB (hz : b.length + c.length ≤ 16777216) (h : ∀ t' k, Q (.bytes (b ++ c).toArray t') { s with toks := k }) : wpAny (model prog w) A (binaryOp .Add (.bytes b.toArray t) (.bytes c.toArray u)) Q E s := by
  refine KBy.add_bytes (by simpa using hz) fun t' k => ?_
  have e : b.toArray ++ c.toArray = (b ++ c).toArray := by simp
  rw [e]
  exact h t' k
end
section
variable {prog : Program} {w : World} {A : Around} {E : Value → Shared → Prop} {s : Shared} {t u : Tok} {Q : Value → Shared → Prop} {value slice : PySem.Expr} {h₀ : Heap} {L : Addr} {news : List (Addr × Obj)}
theorem my_sub {a c : Nat} {k : Int} (hk : k = (c : Int)) (hc : c ≤ a) (h : ∀ t' n, Q (.int ((a - c : Nat) : Int) t') { s with toks := n }) : wpAny (model prog w) A (binaryOp .Sub (.int (a : Int) t) (.int k u)) Q E s := by
  subst hk
  refine PyProof.Rows.sub_int ?_
  have e : (a : Int) - (c : Int) = ((a - c : Nat) : Int) := by omega
  rw [e]
  exact h _ _
theorem my_litem {l : Addr} {vs : List Value} {i n : Nat} {k : Int} {v : Value} (N : News h₀ L s.heap news) (hm : (l, listOf vs.toArray n) ∈ news) (hk : k = (i : Int)) (hx : vs[i]? = some v) (hi : i ≤ 1000000) (h : Q v s)
    (hs : subscripted slice false (.ref l) (.int k u) = operate [.ref l, .int k u] (getItem (.ref l) (.int k u)) := by with_unfolding_all rfl) : wpAny (model prog w) A (subscriptTail value slice (.ref l) (.int k u)) Q E s := by
  subst hk
  have hl : s.heap.IsList l vs.toArray := ⟨_, (N _ hm).1, rfl, n, rfl⟩
  exact tail_any hl.typeIs slot_list_getitem.lookup (wpAny_getItem_list hl (Int.natCast_nonneg _) (by omega) (by simpa using hx) h) hs
end
section
variable {prog : Program} {w : World} {A : Around} {E : Value → Shared → Prop} {s : Shared} {Q : Value → Shared → Prop} {h₀ : Heap} {L : Addr} {news : List (Addr × Obj)}
theorem my_llen {l : Addr} {vs : List Value} {n : Nat} (N : News h₀ L s.heap news) (hm : (l, listOf vs.toArray n) ∈ news) (hz : vs.length ≤ 1000000) (h : ∀ t' k, Q (.int (vs.length : Int) t') { s with toks := k }) :
    wpAny (model prog w) A (call (.builtin "len") [.ref l]) Q E s :=
  kst_len N hm rfl (by omega) (h _ _)
end
end
theorem fresh_B6 : ite True True True := by
  try (walk1; fail)
  w_top off
  exact trivial
section
section
open Sem (wp)
abbrev wfMro : List Value := [.ref 46, .type "Exception", .type "BaseException", .type "object"]
abbrev wfObj : Obj := excClassObj (Str.ofString "WordFault") (Str.ofString "WordFault") 59 58 [.ref 46] wfMro true [] [] false none none (some (.ref 50)) none (some (.str (Str.ofString "WordFault") 236)) (some (.str (Str.ofString "WordFault") 244)) (some (.bool true)) "Exception.__new__"
theorem wf_at (p : Params) : (hd.heap_39 p).lookup 59 = some wfObj := by kernel_rfl
theorem wf_init (p : Params) : findIn (hd.heap_39 p) (.ref 59) "__init__" = some (some (.ref 36)) := by kernel_rfl
theorem wf_fn (p : Params) : typeIn (hd.heap_39 p) (.ref 36) = some (.type "function") := by kernel_rfl
abbrev excO (t : Addr) (d : Option Addr) : Obj := { cls := .ref 59, dict := d, data := .fields #[.ref t, .none, .none, .none, .bool false, .none] }
abbrev tupL (vs : List Value) : Obj := { cls := .type "tuple", data := .seq vs.toArray }
section
variable {prog : Program} {w : World} {A : Around} {R : Result → Shared → Prop} {h : Heap} {g : Array GenState} {d : Drawn} {t : Nat} {os : OsState}
theorem wf_new {rest : List Value} (hC : h.get? 59 = some wfObj)
    (hq : R (.ok (.ret (.ref (h.objs.size + 1)))) ⟨(h.push (tupL rest)).push (excO h.objs.size none), g, d, t, os⟩) (hrest : rest.length ≤ sizeLine) :
    codeAny (model prog w) A (.builtin "Exception.__new__" ⟨.ref 59 :: rest, []⟩) R ⟨h, g, d, t, os⟩ := by
  have F := PySem.F.excBase_Exception
  have hends := F.ends
  have hcB : (Value.ref 59 :: wfMro).contains (.type "Exception") = true := by decide +kernel
  have hcA : (Value.ref 59 :: wfMro).contains (.type "AttributeError") = false := by decide +kernel
  have hcN : (Value.ref 59 :: wfMro).contains (.type "NameError") = false := by decide +kernel
  refine codeAny_builtinAt F.entry ?_
  unfold Builtin.«BaseException.__new__»
  refine PySem.wpAt_bind ?_
  show PySem.wpAt _ _ _ (stack >>= _) _ _ _
  refine PySem.wpAt_bind (PySem.wpAt_stack fun p below => PySem.wpAt_of_wpAny ?_)
  wp_walk
  refine PySem.wpAt_of_wpAny ?_
  rw [F.owner]
  repeat (first | with_reducible refine wpAny_madeHere_exc F.canon hC ?_ | with_reducible refine wpAny_loadPart_at hC ?_ | (with_reducible refine wpAny_isSubtype_exc hC ?_; first | rw [hcB] | rw [hcA] | rw [hcN]) | wp_step)
  show R _ _
  rw [Heap.size_push]
  exact hq
end
section
variable {prog : Program} {w : World} {A : Around} {E : Value → Shared → Prop} {h : Heap} {g : Array GenState} {d : Drawn} {t : Nat} {os : OsState}
theorem wf_type_call {rest : List Value} {Q : Fin → Shared → Prop} (X : (hd.heap_39 w.params).In h) (hrest : rest.length ≤ sizeLine)
    (hq : wpAny (model prog w) A (call (.ref 36) (.ref (h.objs.size + 1) :: rest)) (fun r s' => r = .none ∧ Q (.done (.ret (.ref (h.objs.size + 1)))) s') E ⟨(h.push (tupL rest)).push (excO h.objs.size none), g, d, t, os⟩) :
    wpAny (model prog w) A (Builtin.«type.__call__» ⟨.ref 59 :: rest, []⟩) Q E ⟨h, g, d, t, os⟩ := by
  have F := PySem.F.excBase_Exception
  have hC : h.get? 59 = some wfObj := X _ _ (wf_at _)
  repeat (first | with_reducible refine wpAny_loadPart_at hC ?_ | with_reducible refine wpAny_madeBy_exc hC ?_ | wp_step)
  refine codeAny_call_builtin_code (Code.quiet_builtin _ F.quiet) (wpAny_check_new_subU F (bmB := wfMro) (by decide +kernel) .base hC ?_)
  refine wf_new hC ?_ hrest
  show wpAny _ _ _ _ _ _
  have k : ∀ b o, h.get? b = some o → ((h.push (tupL rest)).push (excO h.objs.size none)).get? b = some o := fun b o e => Heap.get?_push_of_some _ (Heap.get?_push_of_some _ e)
  have hC₁ := k _ _ hC
  have X₁ := X.keeps k
  have hget : ((h.push (tupL rest)).push (excO h.objs.size none)).get? (h.objs.size + 1) = some (excO h.objs.size none) := by heap_get
  have hcC : (Value.ref 59 :: wfMro).contains (.ref 59) = true := by decide +kernel
  unfold isInstance
  repeat (first | with_reducible refine wpAny_loadPart_at hget ?_ | (with_reducible refine wpAny_isSubtype_exc hC₁ ?_; rw [hcC]) | wp_step)
  show wpAny _ _ (typeLookup (.ref 59) _) _ _ _
  refine (looks_findIn X₁ (wf_init _)).here ?_
  dsimp only
  refine wpAny_holding (wpAny_bind ((bind_fn X₁ _ (wf_fn _)).here ?_))
  refine wpAny_bind (wpAny_mono hq (fun r s' hr => ?_) fun _ _ x => x)
  obtain ⟨rfl, hQ⟩ := hr
  wp_walk
  exact hQ
theorem wf_call {rest : List Value} {Q : Value → Shared → Prop} (X : (hd.heap_39 w.params).In h) (hrest : rest.length ≤ sizeLine)
    (hq : wpAny (model prog w) (A.under (.builtin "type.__call__" ⟨.ref 59 :: rest, []⟩)) (call (.ref 36) (.ref (h.objs.size + 1) :: rest)) (fun r s' => r = .none ∧ Q (.ref (h.objs.size + 1)) s') E ⟨(h.push (tupL rest)).push (excO h.objs.size none), g, d, t, os⟩) :
    wpAny (model prog w) A (call (.ref 59) rest) Q E ⟨h, g, d, t, os⟩ := by
  have f1 := tc_lookup
  have f2 := tc_bind (.ref 59)
  have hC : h.get? 59 = some wfObj := X _ _ (wf_at _)
  have hT : (⟨h, g, d, t, os⟩ : Shared).TypeIs (.ref 59) "type" := ⟨_, hC, rfl⟩
  refine wpAny_call (codeAny_of_tree ?_)
  show wpAny _ _ (callAny (.ref 59) _) _ _ _
  repeat (any_goals (first | assumption | with_reducible refine wpAny_loadPart_at hC ?_ | wp_step))
  refine ⟨rfl, ?_⟩
  exact codeAny_call_builtin_at (Code.quiet_builtin _ (by decide +kernel)) entry_typeCall (wpAny_check_type_call_sub hC (wf_type_call X hrest hq))
end
end
end
theorem fresh_B7 : ite True True True := by
  try (walk1; fail)
  w_top off
  exact trivial
section
theorem meta_exc : typeOf (.type "Exception") = pure (.type "type") := by
  first | exact typeOf_type_type (by decide +kernel) | kernel_rfl
theorem wf_sub (p : Params) : mroIn (hd.heap_39 p) 59 (.type "Exception") = some true := by kernel_rfl
theorem wf_subO (p : Params) : mroIn (hd.heap_39 p) 59 (.type "object") = some true := by kernel_rfl
theorem wf_setattr (p : Params) : findIn (hd.heap_39 p) (.ref 59) "__setattr__" = some (some (.builtin "object.__setattr__")) := by kernel_rfl
theorem wf_what (p : Params) : findIn (hd.heap_39 p) (.ref 59) (Str.ofString "what") = some none := by kernel_rfl
theorem wf_place (p : Params) : findIn (hd.heap_39 p) (.ref 59) (Str.ofString "at") = some none := by kernel_rfl
section
variable {w : World} {A : Around} {E : Value → Shared → Prop} {h : Heap} {g : Array GenState} {d : Drawn} {t : Nat} {os : OsState}
theorem exc_check {M : Model} {e : Addr} {oe : Obj} {rest : List Value} {Q : Unit → Shared → Prop} (hC : h.get? 59 = some wfObj) (he : h.get? e = some oe) (hcls : oe.cls = .ref 59) (hq : Q () ⟨h, g, d, t, os⟩) :
    wpAny M A (checkBuiltinCall "Exception.__init__" ⟨.ref e :: rest, []⟩) Q E ⟨h, g, d, t, os⟩ := by
  have F := PySem.F.excBase_Exception
  have hcB : (Value.ref 59 :: wfMro).contains (.type "Exception") = true := by decide +kernel
  have hshort := F.noStar
  simp only [checkBuiltinCall, F.initKind, F.initSplit, F.initRow]
  repeat (first | (with_reducible refine wpAny_loadPart_at he ?_; rw [hcls]) | with_reducible refine wpAny_loadPart_at hC ?_ | (with_reducible refine wpAny_isSubtype_exc hC ?_; rw [hcB]) | wp_step)
  refine wpAny_onRaise ?_
  rw [show ∀ (a b : String) (n : Nat), Bind.check ⟨.positional, "*", "Exception", .self, [⟨"args", .varPos, false⟩]⟩ a b n (List.map (fun x => x.fst) ({ pos := Value.ref e :: rest } : Args).kw) = pure () from
    fun a b n => check_star_args _ _ _ _ _ _]
  exact wpAny_pure hq
end
section
variable {prog : Program} {w : World} {A : Around} {E : Value → Shared → Prop} {h₀ : Heap} {L : Addr} {m : Str → Option Value} {news : List (Addr × Obj)} {h : Heap} {g : Array GenState} {d : Drawn} {tk : Nat} {os : OsState}
theorem exc_init_call {e t : Addr} {v : Value} {Q : Value → Shared → Prop} (F : Fr h₀ L h m) (X₀ : (hd.heap_39 w.params).In h₀) (N : News h₀ L h ((e, excO t none) :: news)) (hne : ∀ p ∈ news, p.1 ≠ e)
    (hq : ∀ t' h' tk', Fr h₀ L h' m → News h₀ L h' ((e, excO t' none) :: (t', tupL [v]) :: news) → (∀ p ∈ (t', tupL [v]) :: news, p.1 ≠ e) → Q .none ⟨h', g, d, tk', os⟩) : wpAny (model prog w) A (call (.builtin "Exception.__init__") [.ref e, v]) Q E ⟨h, g, d, tk, os⟩ := by
  have FE := PySem.F.excBase_Exception
  have hC : h.get? 59 = some wfObj := F.keep _ _ (X₀ _ _ (wf_at _))
  have he := (N _ (.head _)).1
  refine wpAny_call (codeAny_call_builtin FE.init.plain FE.initEntry (exc_check hC he rfl ?_))
  wp_walk
  have N1 := N.push F (tupL [v])
  have F1 := F.push (tupL [v])
  have hlt : h.objs.size ≠ e := Nat.ne_of_gt (Heap.lt_size he)
  obtain ⟨U1, U2⟩ := news_upd (pre := [(h.objs.size, tupL [v])]) (post := news) (o' := excO h.objs.size none) (f := Obj.mapFields (·.setIfInBounds 0 (Value.ref h.objs.size))) F1 N1 (List.forall_mem_cons.mpr ⟨hlt, fun _ h => nomatch h⟩) hne rfl rfl
  exact hq h.objs.size _ _ U1 (fun p hp => U2 p (by
    rcases List.mem_cons.mp hp with rfl | hp
    · exact .tail _ (.head _)
    · rcases List.mem_cons.mp hp with rfl | hp
      · exact .head _
      · exact .tail _ (.tail _ hp))) (List.forall_mem_cons.mpr ⟨hlt, hne⟩)
theorem exc_set_core {M : Model} {dx : Addr} {name : Str} {t : Tok} {v : Value} {es es' : List DictEntry} {n n' : Nat} {pre post : List (Addr × Obj)} {Q : Fin → Shared → Prop} (F : Fr h₀ L h m) (N : News h₀ L h (pre ++ (dx, dictOf es n) :: post))
    (h1 : ∀ p ∈ pre, p.1 ≠ dx) (h2 : ∀ p ∈ post, p.1 ≠ dx) (hr : es.any (·.refKey) = false) (e : ∀ k, Obj.putName name (PyData.keyHash M.w.params name) (.str name k) v (dictOf es n) = dictOf (es' ++ [⟨PyData.keyHash M.w.params name, .str name k, v⟩]) n') (hz : es'.length ≤ 1000)
    (hq : ∀ h' k, Fr h₀ L h' m → News h₀ L h' (pre ++ (dx, dictOf (es' ++ [⟨PyData.keyHash M.w.params name, .str name k, v⟩]) n') :: post) → Q (.done (.ret .none)) ⟨h', g, d, tk + 1, os⟩) :
    wpAny M A (Builtin.ObjectAttr.storeInDict dx (.str name t) name v) Q E ⟨h, g, d, tk, os⟩ := by
  unfold Builtin.ObjectAttr.storeInDict Builtin.ObjectAttr.newKeyGuard
  refine wpAny_bind (wpAny_pure (wpAny_bind ?_))
  have D := (N (dx, dictOf es n) (by simp)).1
  obtain ⟨U1, U2⟩ := news_upd (f := Obj.putName name (PyData.keyHash M.w.params name) (.str name tk) v) F N h1 h2 (e tk) rfl
  have D' := (U2 (dx, dictOf (es' ++ [⟨PyData.keyHash M.w.params name, .str name tk, v⟩]) n') (by simp)).1
  unfold nsSet
  refine wpAny_bind (wpAny_bind (wpAny_askSetting (wpAny_pure (wpAny_bind (wpAny_mkText (wpAny_bind (wpAny_loadPart D ?_)))))))
  dsimp only
  have c : (!es.toArray.any (·.key.isStr name) && es.toArray.any (·.refKey)) = false := by
    have hr' : es.toArray.any (fun e => e.refKey) = false := by rw [← Array.any_toList]; exact hr
    rw [hr', Bool.and_false]
  rw [aRefKeyMayBeTheName_at, c]
  refine wpAny_updatePart D ?_
  refine wpAny_bind (wpAny_lookBehind D' (pastItsLine_dict (by rw [List.size_toArray, sizeLine_eq, List.length_append]; simp only [List.length_cons, List.length_nil]; omega)) ?_)
  exact wpAny_pure (hq _ _ U1 U2)
theorem exc_set_open {e t : Addr} {dd : Option Addr} {name : Str} {v : Value} {Q : Unit → Shared → Prop} (X : (hd.heap_39 w.params).In h) (he : h.get? e = some (excO t dd)) (hdd : match dd with | some dx => ∃ o, h.get? dx = some o | none => True) (hn : findIn (hd.heap_39 w.params) (.ref 59) name = some none)
    (hq : ∀ k A' E', wpAny (model prog w) A' (Builtin.ObjectAttr.storeInOwnDict (.ref e) (.ref 59) (.str name k) name v false) (fun f s' => f = .done (.ret .none) ∧ Q () s') E' ⟨h, g, d, tk + 1, os⟩) :
    wpAny (model prog w) A (setAttr (.ref e) name v) Q E ⟨h, g, d, tk, os⟩ := by
  have SF := PySem.F.store_object
  have LT : ∀ {M : Model}, Looks M h (typeOf (.ref e)) (.ref 59) := (Looks.ld he).andThen .now
  have sub : Looks (model prog w) h (isInstance (.ref e) (.type "object")) true := LT.andThen (looks_mroIn X (wf_subO _))
  have hm : Looks (model prog w) h (mroOf (.ref 59)) (.ref 59 :: wfMro) := (looks_clsIn X (show clsIn (hd.heap_39 w.params) 59 = some _ by unfold clsIn; rw [wf_at])).andThen .now
  refine wpAny_bind (wpAny_mkText (wpAny_bind (wpAny_bind (wpAny_bind (LT _ _ _ _ (fun _ _ e => e) (looks_findIn X (wf_setattr _) _ _ _ _ (fun _ _ e => e) (wpAny_holding ?_)))))))
  rw [SF.slot.bind]
  refine wpAny_bind (wpAny_pure (wpAny_bind (wpAny_call ?_)))
  refine codeAny_call_builtin SF.slot.plain SF.entry (@check_slot (model prog w) _ _ ⟨h, g, d, tk + 1, os⟩ "object.__setattr__" "object" "__setattr__" (.ref e) [.str name tk, v] [] _ SF.kind SF.split sub (SF.args (.ref e) (.str name tk) v) ?_)
  show wpAny _ _ (Builtin.«object.__setattr__» ⟨[.ref e, .str name tk, v], []⟩) _ _ _
  rw [osa_eq, refuse_eq]
  refine wpAny_bind (wpAny_bind (LT.here (wpAny_bind (hm.here ?_))))
  rw [refuseLoop_ref, refuseLoop_ref, PySem.F.store_Exception.passes]
  refine wpAny_pure (wpAny_bind (LT.here (wpAny_bind ((looks_findIn X hn).here (wpAny_bind (wpAny_pure ?_))))))
  refine wpAny_mono (hq tk _ _) (fun f s' z => ?_) fun _ _ z => z
  obtain ⟨rfl, z⟩ := z
  exact wpAny_pure (wpAny_pure z)
theorem wf_cls (p : Params) : ∃ cd, clsIn (hd.heap_39 p) 59 = some cd ∧ cd.hasDict = true := ⟨_, by unfold clsIn; rw [wf_at], rfl⟩
theorem exc_dict_new {M : Model} {e t : Addr} {Q : Option Addr → Shared → Prop} {p : Params} (X : (hd.heap_39 p).In h) (he : h.get? e = some (excO t none))
    (hq : Q (some h.objs.size) ⟨(h.push emptyDict).update e (fun o => { o with dict := some h.objs.size }), g, d, tk, os⟩) : wpAny M A (Builtin.ObjectAttr.ownDictForStores (.ref e)) Q E ⟨h, g, d, tk, os⟩ := by
  obtain ⟨cd, hc, hh⟩ := wf_cls p
  show wpAny _ _ (instanceDict e true) _ _ _
  unfold instanceDict
  refine wpAny_bind (wpAny_loadPart_at he ?_)
  dsimp only
  refine wpAny_bind ((looks_clsIn X hc).here ?_)
  simp only [hh, Bool.not_true, Bool.false_eq_true, if_false, Bool.false_or]
  rw [if_neg (by simp [typeHasDict])]
  refine wpAny_bind (wpAny_alloc' (wpAny_bind (wpAny_update' (Heap.get?_push_of_some _ he) ?_)))
  exact wpAny_pure hq
theorem exc_dict_old {M : Model} {e t dx : Addr} {Q : Option Addr → Shared → Prop} {p : Params} (X : (hd.heap_39 p).In h) (he : h.get? e = some (excO t (some dx)))
    (hq : Q (some dx) ⟨h, g, d, tk, os⟩) : wpAny M A (Builtin.ObjectAttr.ownDictForStores (.ref e)) Q E ⟨h, g, d, tk, os⟩ := by
  obtain ⟨cd, hc, hh⟩ := wf_cls p
  show wpAny _ _ (instanceDict e true) _ _ _
  unfold instanceDict
  refine wpAny_bind (wpAny_loadPart_at he ?_)
  dsimp only
  refine wpAny_bind ((looks_clsIn X hc).here ?_)
  simp only [hh, Bool.not_true, Bool.false_eq_true, if_false]
  exact wpAny_pure hq
theorem exc_own_open {M : Model} {e : Addr} {nameV v : Value} {name : Str} {Q : Fin → Shared → Prop} (hq : wpAny M A (Builtin.ObjectAttr.ownDictForStores (.ref e)) (fun r s' => wpAny M A (match r with | some d => Builtin.ObjectAttr.storeInDict d nameV name v | none => Builtin.ObjectAttr.noDictFor (.ref e) (.ref 59) name false) Q E s') E ⟨h, g, d, tk, os⟩) :
    wpAny M A (Builtin.ObjectAttr.storeInOwnDict (.ref e) (.ref 59) nameV name v false) Q E ⟨h, g, d, tk, os⟩ := by
  unfold Builtin.ObjectAttr.storeInOwnDict
  refine wpAny_bind (wpAny_pure ?_)
  rw [if_neg (by simp)]
  exact wpAny_bind (wpAny_mono hq (fun r s' z => z) fun _ _ z => z)
theorem exc_set_first {e t : Addr} {v : Value} {Q : Unit → Shared → Prop} (F : Fr h₀ L h m) (X₀ : (hd.heap_39 w.params).In h₀) (N : News h₀ L h ((e, excO t none) :: news)) (hne : ∀ p ∈ news, p.1 ≠ e)
    (hq : ∀ dx k h' tk', Fr h₀ L h' m → News h₀ L h' ((e, excO t (some dx)) :: (dx, dictOf [⟨PyData.keyHash w.params (Str.ofString "what"), .str (Str.ofString "what") k, v⟩] 1) :: news) → (∀ p ∈ news, p.1 ≠ dx) → e ≠ dx → Q () ⟨h', g, d, tk', os⟩) :
    wpAny (model prog w) A (setAttr (.ref e) (Str.ofString "what") v) Q E ⟨h, g, d, tk, os⟩ := by
  have X := X₀.keeps F.keep
  have he := (N _ (.head _)).1
  refine exc_set_open X he True.intro (wf_what _) fun k A' E' => exc_own_open (exc_dict_new X he ?_)
  have N1 := N.push F emptyDict
  have F1 := F.push emptyDict
  have hlt : h.objs.size ≠ e := Nat.ne_of_gt (Heap.lt_size he)
  obtain ⟨U1, U2⟩ := news_upd (pre := [(h.objs.size, emptyDict)]) (post := news) (o' := excO t (some h.objs.size)) (f := fun o => { o with dict := some h.objs.size }) F1 N1 (List.forall_mem_cons.mpr ⟨hlt, fun _ h => nomatch h⟩) hne rfl rfl
  have hnd : ∀ p ∈ news, p.1 ≠ h.objs.size := fun p hp => Nat.ne_of_lt (Heap.lt_size (N p (.tail _ hp)).1)
  refine exc_set_core (es := []) (es' := []) (n := 0) (n' := 1) (pre := []) (post := (e, excO t (some h.objs.size)) :: news) U1 U2 (fun _ h => nomatch h) (List.forall_mem_cons.mpr ⟨hlt.symm, hnd⟩) rfl (fun k => by first | rfl | kernel_rfl) (Nat.zero_le _) ?_
  intro h' k' F' N'
  refine ⟨rfl, hq _ k' h' _ F' (fun p hp => N' p ?_) hnd hlt.symm⟩
  rcases List.mem_cons.mp hp with rfl | hp
  · exact .tail _ (.head _)
  · rcases List.mem_cons.mp hp with rfl | hp
    · exact .head _
    · exact .tail _ (.tail _ hp)
theorem exc_set_next {e t dx : Addr} {k₀ : Tok} {v₀ v : Value} {Q : Unit → Shared → Prop} (F : Fr h₀ L h m) (X₀ : (hd.heap_39 w.params).In h₀) (N : News h₀ L h ((e, excO t (some dx)) :: (dx, dictOf [⟨PyData.keyHash w.params (Str.ofString "what"), .str (Str.ofString "what") k₀, v₀⟩] 1) :: news)) (hnd : ∀ p ∈ news, p.1 ≠ dx) (hed : e ≠ dx)
    (hq : ∀ od h' tk', Fr h₀ L h' m → News h₀ L h' ((e, excO t (some dx)) :: (dx, od) :: news) → Q () ⟨h', g, d, tk', os⟩) :
    wpAny (model prog w) A (setAttr (.ref e) (Str.ofString "at") v) Q E ⟨h, g, d, tk, os⟩ := by
  have X := X₀.keeps F.keep
  have he := (N _ (.head _)).1
  refine exc_set_open X he ⟨_, (N _ (.tail _ (.head _))).1⟩ (wf_place _) fun k A' E' => exc_own_open (exc_dict_old X he ?_)
  refine exc_set_core (es' := [⟨PyData.keyHash w.params (Str.ofString "what"), .str (Str.ofString "what") k₀, v₀⟩]) (n' := 2) (pre := [(e, excO t (some dx))]) (post := news) F N (List.forall_mem_cons.mpr ⟨hed, fun _ h => nomatch h⟩) hnd rfl (fun k => by first | rfl | kernel_rfl) (by simp) ?_
  intro h' k' F' N'
  exact ⟨rfl, hq _ h' _ F' N'⟩
end
end
theorem fresh_B8 : ite True True True := by
  try (walk1; fail)
  w_top off
  exact trivial
section
local macro_rules | `(tactic| walk_at "getMethod type:Exception") => `(tactic| (k_here; refine' method_type ?F ?X ?m (by decide +kernel) ?e ?h ?_; (case F => k_asm); (case X => k_asm); (case m => exact meta_exc); (case e => k_dflt k_is); (case h => k_handed)))
local macro_rules | `(tactic| walk_at "call builtin:Exception.__init__") => `(tactic| (k_here; k_dflt (refine' exc_init_call ?F ?X ?N ?n ?_; (case F => k_asm); (case N => k_asm); (case X => k_asm); (case n => assumption)); intro t1 h' tk' F' N' hne'; (try k_sweep)))
local macro_rules | `(tactic| walk_at "setAttr ref") => `(tactic| (k_here; (with_reducible show wpAny _ _ (setAttr (Value.ref _) (Str.ofString "what") _) _ _ _); k_dflt (refine' exc_set_first ?F ?X ?N ?n ?_; (case F => k_asm); (case N => k_asm); (case X => k_asm); (case n => assumption)); intro dx k' h' tk' F' N' hnd hed; (try k_sweep)))
local macro_rules | `(tactic| walk_at "setAttr ref") => `(tactic| (k_here; (with_reducible show wpAny _ _ (setAttr (Value.ref _) (Str.ofString "at") _) _ _ _); k_dflt (refine' exc_set_next ?F ?X ?N ?n ?o ?_; (case F => k_asm); (case N => k_asm); (case X => k_asm); (case n => assumption); (case o => assumption)); intro od h' tk' F' N'; (try k_sweep)))
theorem init_tell (w : World) (news : List (Addr × Obj)) (e t₀ : Addr) (a : Str) (ta : Tok) (b : Int) (tb : Tok) (hne : ∀ p ∈ news, p.1 ≠ e) :
    Tell w ((e, excO t₀ none) :: news) 36 [.ref e, .str a ta, .int b tb] 1 16 (fun v news' => v = .none ∧ ∃ t dx od ot, news' = (e, excO t (some dx)) :: (dx, od) :: (t, ot) :: news) := by
  unfold Tell
  intro mean mg mb dp un gd cn cs ad ccd cl' outer A₀ base h₀ L m s Q E Bw F X N T hk hd hu hret
  refine wpAny_call ?_
  k_dflt (refine' code_def ?k1 ?k2 ?k3 ?k4 ?k5 ?kA ?kF ?kK ?k6 ?k7 ?k8 ?k9 ?kB ?_ ?c2 ?c3 ?c4 ?c5; (case kA => exact rfl); (case kF => exact rfl); (case kK => assumption); (case k1 => k_asm); (case k2 => k_asm); (case k3 => k_asm); (case k4 => k_asm); (case k5 => k_asm); (case k6 => k_is); (case k7 => k_is); (case k8 => ktr_room); (case k9 => exact binds_K (by k_in) rfl (by k_is) rfl rfl rfl); (case c5 => decide); (case kB => exact locs rfl); (case c2 => exact rfl); (case c3 => exact rfl); (case c4 => exact rfl); k_whole; intro g' L' h' FG' F' N' B' X' T'; (try dsimp only); (try k_lift B'); (try k_fold))
  k_steps
  exact fin_ret hret (_ :: _ :: _ :: news) (by assumption) (by assumption) (fun _ h => h) ⟨rfl, _, _, _, _, rfl⟩
section
variable {M : Model} {A : Around} {E : Value → Shared → Prop} {env : Env}
theorem wf_raise {s : Shared} {x : Sem Value} {Q : Flow → Shared → Prop} (hh : A.handled = none)
    (h : wpAny M A x (fun v s₁ => ∃ e t dd, v = .ref e ∧ s₁.heap.get? 59 = some wfObj ∧ s₁.heap.get? e = some (excO t dd) ∧ E (.ref e) s₁) E s) :
    wpAny M A (raiseStmt env (some x) none) Q E s := by
  have hcB : (Value.ref 59 :: wfMro).contains (.type "BaseException") = true := by decide +kernel
  unfold raiseStmt
  refine wpAny_bind (wpAny_mono h (fun v s₁ h₁ => ?_) fun _ _ x => x)
  obtain ⟨e, t, dd, rfl, hC, he, hE⟩ := h₁
  obtain ⟨hp, g, d, tk, os⟩ := s₁
  repeat (first | with_reducible refine wpAny_loadPart_at he ?_ | with_reducible refine wpAny_loadPart_at hC ?_ | (with_reducible refine wpAny_isSubtype_exc hC ?_; rw [hcB]) | wp_step)
  exact wpAny_raiseNew_none hh hE
end
section
variable {prog : Program} {w : World} {A : Around} {E : Value → Shared → Prop} {s : Shared} {env : Env}
theorem wf_Raise {x : Str} {np cpos pos : Pos} {args : List Expr} {Q : Flow → Shared → Prop}
    (hh : A.handled = none) (hplain : (backTo cpos (starEach args env)).any (·.1) = false)
    (h : wpAny (model prog w) A (eval (.Name x np) env) (fun f s₁ => f = .ref 59 ∧ wpAny (model prog w) A (evalArgs (.ref 59) true (backTo cpos (starEach args env)) [])
      (fun a s₂ => a.kw = [] ∧ a.pos.length ≤ sizeLine ∧ (hd.heap_39 w.params).In s₂.heap ∧
        wpAny (model prog w) (A.under (.builtin "type.__call__" ⟨.ref 59 :: a.pos, []⟩)) (call (.ref 36) (.ref (s₂.heap.objs.size + 1) :: a.pos))
          (fun r s' => r = .none ∧ s'.heap.get? 59 = some wfObj ∧ (∃ t dd, s'.heap.get? (s₂.heap.objs.size + 1) = some (excO t dd)) ∧ E (.ref (s₂.heap.objs.size + 1)) s') E
          { s₂ with heap := (s₂.heap.push (tupL a.pos)).push (excO s₂.heap.objs.size none) }) E s₁) E s) :
    wpAny (model prog w) A (exec (.Raise (some (.Call (.Name x np) args [] cpos)) none pos) env) Q E s := by
  rw [arm_exec_Raise]
  refine wpAny_bind (wpAny_standAt (wf_raise hh (wpAny_bind (wpAny_mono (wpAny_Call_ofName (wpAny_mono h (fun f s₁ h₁ => ?_) fun _ _ x => x)) (fun v s₃ h₃ => wpAny_bind (wpAny_standAt (wpAny_pure h₃))) fun _ _ x => x))))
  obtain ⟨rfl, h₁⟩ := h₁
  unfold callWith
  refine wpAny_bind (wpAny_holding (wpAny_mono h₁ (fun a s₂ h₂ => wpAny_bind (wpAny_standAt ?_)) fun _ _ x => x))
  obtain ⟨apos, akw⟩ := a
  obtain ⟨hkw, hlen, X, h₂⟩ := h₂
  obtain rfl : akw = [] := hkw
  obtain ⟨hp, g, d, tk, os⟩ := s₂
  have hC : hp.get? 59 = some wfObj := X _ _ (wf_at _)
  simp only [hplain]
  refine wpAny_bind (wpAny_keeperOf_exc hC ?_)
  refine wpAny_bind (wf_call X hlen (wpAny_mono h₂ (fun r s' z => ?_) fun _ _ z => z))
  obtain ⟨rfl, hC', ⟨t, dd, he⟩, hE⟩ := z
  exact ⟨rfl, wpAny_bind (wpAny_holding (wpAny_point (wpAny_pure ⟨_, t, dd, rfl, hC', he, hE⟩)))⟩
end
end
theorem fresh_B9 : ite True True True := by
  try (walk1; fail)
  w_top off
  exact trivial
section
section
variable {w : World} {s : Shared} {Q : Flow → Shared → Prop} {E : Value → Shared → Prop}
/-- the raise of WordFault(text, place) in a frame -/
theorem wf_raise_K {mean : ExcName → Option Value} {mg mb : Str → Option Value} {dp un : Nat} {gd : Option (List Code)} {cn : Str} {cs : Scope} {a : Addr} {ccd : Value} {cl : List (Str × Addr)} {outer : List Env} {A₀ : Around} {base h₀ : Heap} {L : Addr} {m : Str → Option Value} {news : List (Addr × Obj)}
    {np cpos pos : Pos} {e₀ : Expr} {rest : List Expr} (B : Below A₀ base outer h₀) (F : Fr h₀ L s.heap m) (X : (hd.heap_39 w.params).In h₀) (Tp : Top hd.view_39 (looseW hd.view_39 [Str.ofString "PostError"]) mean mg mb h₀) (hk : cs.kind = .function) (hdp : dp + 2 < recursionLimit) (hu : un + 32 < cLine)
    (h : wpAny (model PySem.Challenge.rw_or0042_01.row.prog w) (ktrTop dp un gd cn cs L a ccd cl outer) (spliced (backTo cpos (starEach (e₀ :: rest) (envX cn cs L a ccd cl))))
      (fun vs s₂ => ∃ (x : Str) (tx : Tok) (i : Int) (ti : Tok), vs = [.str x tx, .int i ti] ∧ Fr h₀ L s₂.heap m ∧ News h₀ L s₂.heap news ∧
        ∀ e o rest h' tk', (∀ p ∈ news, p.1 ≠ e) → (∃ t dd, o = excO t dd) → Fr h₀ L h' m → News h₀ L h' ((e, o) :: (rest ++ news)) → E (.ref e) { s₂ with heap := h', toks := tk' }) E s)
    (he : starEach (e₀ :: rest) (envX cn cs L a ccd cl) = (false, eval e₀ (envX cn cs L a ccd cl)) :: starEach rest (envX cn cs L a ccd cl))
    (hplain : (backTo cpos (starEach rest (envX cn cs L a ccd cl))).any (·.1) = false)
    (hx : (envX cn cs L a ccd cl).kindOf (Str.ofString "WordFault") = some .globalImplicit) :
    wpAny (model PySem.Challenge.rw_or0042_01.row.prog w) (ktrTop dp un gd cn cs L a ccd cl outer) (exec (.Raise (some (.Call (.Name (Str.ofString "WordFault") np) (e₀ :: rest) [] cpos)) none pos) (envX cn cs L a ccd cl)) Q E s := by
  refine wf_Raise rfl (by rw [he]; show (false || (backTo cpos (starEach rest (envX cn cs L a ccd cl))).any (·.1)) = false; rw [hplain]; rfl) ?_
  refine nameG_K F X (topRead_of Tp) (v := .ref 59) (by k_is) ⟨rfl, ?_⟩ rfl hk hx (by decide)
  rw [he] at h ⊢
  refine Calls.evalArgs_plain (wpAny_mono h (fun vs s₂ z => ?_) fun _ _ y => y)
  obtain ⟨x, tx, i, ti, rfl, F₂, N₂, hE⟩ := z
  refine ⟨rfl, by rw [sizeLine_eq]; simp, X.keeps F₂.keep, ?_⟩
  have N3 := (N₂.push F₂ (tupL [.str x tx, .int i ti])).push (F₂.push _) (excO s₂.heap.objs.size none)
  rw [Heap.size_push] at N3
  have hne : ∀ p ∈ ((s₂.heap.objs.size, tupL [.str x tx, .int i ti]) :: news), p.1 ≠ s₂.heap.objs.size + 1 := List.forall_mem_cons.mpr ⟨Nat.ne_of_lt (Nat.lt_succ_self _), fun p hp => Nat.ne_of_lt (Nat.lt_succ_of_lt (Heap.lt_size (N₂ p hp).1))⟩
  refine Tell.use (news := (s₂.heap.objs.size + 1, excO s₂.heap.objs.size none) :: (s₂.heap.objs.size, tupL [.str x tx, .int i ti]) :: news) (init_tell _ ((s₂.heap.objs.size, tupL [.str x tx, .int i ti]) :: news) _ _ _ _ _ _ hne) B ((F₂.push _).push _) X N3 Tp hk ?_ ?_ ?_
  · show dp + 1 + 1 < recursionLimit
    omega
  · show un + 1 + 16 < cLine
    omega
  · rintro v news' h' tk' ⟨rfl, t, dx, od, ot, rfl⟩ F' N'
    refine ⟨rfl, F'.keep _ _ (X _ _ (wf_at _)), ⟨t, _, (N' _ (.head _)).1⟩, ?_⟩
    refine hE _ (excO t (some dx)) [(dx, od), (t, ot), (s₂.heap.objs.size, tupL [.str x tx, .int i ti])] h' tk' (fun p hp => hne p (.tail _ hp)) ⟨_, _, rfl⟩ F' N'
end
section
variable {M : Model} {A : Around} {E : Value → Shared → Prop} {s' : Shared} {base g : Heap} {outer : List Env} {L a e : Addr} {m : Str → Option Value} {name : Str} {scope : Scope} {cd : Value} {Q : Unit → Shared → Prop} {news : List (Addr × Obj)}
/-- out of the frame where it was raised -/
theorem leave_firstK {o : Obj} {rest : List (Addr × Obj)} (K : Below A base outer g) (ho : ∃ t dd, o = excO t dd) (F : Fr g L s'.heap m) (N : News g L s'.heap ((e, o) :: (rest ++ news)))
    (hQ : ∀ h', RaisedN base outer e (.ref 59) news h' → g.UpToSlots h' → Q () { s' with heap := h' }) (hne : ∀ p ∈ news, p.1 ≠ e) (hk : scope.kind = .function) :
    wpAny M (A.deeper (envOf name scope L a cd)) (leaving (envOf name scope L a cd) (.ref e)) Q E s' := by
  obtain ⟨t, dd, rfl⟩ := ho
  have K' := K.push (name := name) (a := a) (cd := cd) F hk
  let as := e :: (envOf name scope L a cd :: outer).filterMap (·.frame)
  have he := N _ (.head _)
  have N' : News g L s'.heap news := fun p hp => N p (.tail _ (List.mem_append_right _ hp))
  have hin : ∀ env ∈ (envOf name scope L a cd :: outer), ∀ b, env.frame = some b → b ∈ as := fun env he b hb => .tail _ (List.mem_filterMap.mpr ⟨env, he, hb⟩)
  have hbe : base.get? e = none := fresh_of_stays K.stays he.2.2
  have st : base.StaysIn (hideAll s'.heap as) := fun b o q => hideAll_get _ (K'.stays b o q) fun hm => by
    rcases List.mem_cons.mp hm with rfl | hm
    · rw [hbe] at q; cases q
    · rw [(K'.frames.mem hm).1] at q; cases q
  have hl : ∀ q ∈ news, (hideAll s'.heap as).get? q.1 = some q.2 ∧ base.get? q.1 = none := fun q hq => by
    refine ⟨hideAll_get _ (N' q hq).1 fun hm => ?_, fresh_of_stays K.stays (N' q hq).2.2⟩
    rcases List.mem_cons.mp hm with h | hm
    · exact hne q hq h
    · obtain ⟨env, he, hf⟩ := List.mem_filterMap.mp hm
      rcases List.mem_cons.mp he with rfl | he
      · exact (N' q hq).2.1 (Option.some.inj hf).symm
      · obtain ⟨o, ho, _⟩ := (K.frames.mem (List.mem_filterMap.mpr ⟨env, he, hf⟩)).2
        rw [(N' q hq).2.2] at ho; cases ho
  have hen : (hideAll s'.heap as).get? e = none := hideAll_none _ (.head _)
  refine wpAny_leaving_firstW (a0 := .ref t) K'.stack (funFrames_hide K'.frames hin) rfl he.1 (fun b o hb => of_hideAll _ hb) hen rfl rfl rfl fun h' hL => ?_
  obtain ⟨k1, ⟨_, _, k2⟩, k3, k4⟩ := hL
  exact hQ h' ⟨_, .ref t, st, hl, k1, hen, k2, k3⟩ ((Heap.UpToSlots.of_keeps F.keep).trans k4)
end
/-- what a call of the def at f tells that raises: the exception flies, and the ledger behind it -/
noncomputable def TellX (w : World) (news : List (Addr × Obj)) (f : Addr) (args : List Value) (d u : Nat) : Prop :=
  ∀ (mean : ExcName → Option Value) (mg mb : Str → Option Value) (dp un : Nat) (gd : Option (List Code)) (cn : Str) (cs : Scope) (a : Addr) (ccd : Value) (cl : List (Str × Addr)) (outer : List Env) (A₀ : Around) (base h₀ : Heap) (L : Addr) (m : Str → Option Value) (s : Shared)
    (Q E : Value → Shared → Prop),
    Below A₀ base outer h₀ → Fr h₀ L s.heap m → (hd.heap_39 w.params).In h₀ → News h₀ L s.heap news → Top hd.view_39 (looseW hd.view_39 [Str.ofString "PostError"]) mean mg mb h₀ → cs.kind = .function → dp + d < recursionLimit → un + u < cLine →
    (∀ g e h' tk', Fr h₀ L g m → RaisedN base (envX cn cs L a ccd cl :: outer) e (.ref 59) news h' → g.UpToSlots h' → E (.ref e) { s with heap := h', toks := tk' }) →
    wpAny (model PySem.Challenge.rw_or0042_01.row.prog w) (ktrTop dp un gd cn cs L a ccd cl outer) (call (.ref f) args) Q E s
theorem TellX.use {w : World} {news : List (Addr × Obj)} {f : Addr} {args : List Value} {d u : Nat} (T : TellX w news f args d u)
    {mean : ExcName → Option Value} {mg mb : Str → Option Value} {dp un : Nat} {gd : Option (List Code)} {cn : Str} {cs : Scope} {a : Addr} {ccd : Value} {cl : List (Str × Addr)} {outer : List Env} {A₀ : Around} {base h₀ : Heap} {L : Addr} {m : Str → Option Value} {s : Shared}
    {Q E : Value → Shared → Prop} (B : Below A₀ base outer h₀) (F : Fr h₀ L s.heap m) (X : (hd.heap_39 w.params).In h₀) (N : News h₀ L s.heap news) (Tp : Top hd.view_39 (looseW hd.view_39 [Str.ofString "PostError"]) mean mg mb h₀) (hk : cs.kind = .function)
    (hd : dp + d < recursionLimit) (hu : un + u < cLine) (ret : ∀ g e h' tk', Fr h₀ L g m → RaisedN base (envX cn cs L a ccd cl :: outer) e (.ref 59) news h' → g.UpToSlots h' → E (.ref e) { s with heap := h', toks := tk' }) :
    wpAny (model PySem.Challenge.rw_or0042_01.row.prog w) (ktrTop dp un gd cn cs L a ccd cl outer) (call (.ref f) args) Q E s := T _ _ _ _ _ _ _ _ _ _ _ _ _ _ _ _ _ _ _ _ B F X N Tp hk hd hu ret
theorem raised_sub {base h : Heap} {l : List Env} {e : Addr} {cls : Value} {news news' : List (Addr × Obj)} (R : RaisedN base l e cls news h) (hs : ∀ p ∈ news', p ∈ news) : RaisedN base l e cls news' h := by
  obtain ⟨B, a0, h1, h2, h3⟩ := R
  exact ⟨B, a0, h1, fun q hq => h2 q (hs q hq), h3⟩
theorem allLt_mem {d : Addr} {l : List (Addr × Obj)} (h : AllLt d l) : ∀ p ∈ l, p.1 < d := by
  induction l with
  | nil => intro p hp; cases hp
  | cons x r ih =>
    intro p hp
    rcases List.mem_cons.mp hp with rfl | hp
    · exact h.1
    · exact ih h.2 p hp
end
theorem fresh_B10 : ite True True True := by
  try (walk1; fail)
  w_top off
  exact trivial
section
open PyProof.Rows.LCg
section
variable {prog : Program} {w : World} {A : Around} {E : Value → Shared → Prop} {s : Shared} {h₀ : Heap} {L : Addr} {m : Str → Option Value} {env : Env} {elt : Expr} {x : Str} {scope : Scope} {cl : List (Str × Addr)}
/-- a comprehension's turns under an invariant over what is made so far and the ledger -/
theorem comp_inv {S : List (Addr × Obj) → Prop} {P : Nat → Value → Prop} {Fin : List Value → List (Addr × Obj) → Prop} {n : Nat} (J : Nat → List Value → List (Addr × Obj) → Prop)
    (turn : ∀ i ys news v I oI C oC D m₂ h tk (E' : Value → Shared → Prop), i < n → J i ys news → P i v → NsObj oC m₂ → m₂ x = some v → Fr h₀ L h m → News h₀ L h ((I, oI) :: (C, oC) :: (D, lst ys) :: news) → Off3 I C D news → ((@Ne Nat I C) ∧ (@Ne Nat I D) ∧ (@Ne Nat C D)) →
      wpAny (model prog w) A (eval elt (compEnvC scope cl C env)) (CompEnd h₀ L m { s with heap := h, toks := tk } I oI C oC D (lst ys) S (fun y news' => J (i + 1) (ys ++ [y]) news')) E' { s with heap := h, toks := tk })
    (fin : ∀ ys news, J n ys news → Fin ys news) : ∀ (k i : Nat) (ys : List Value) (news : List (Addr × Obj)), i + k = n → J i ys news → CompRest prog w A h₀ L m env elt x scope cl s S P Fin k i ys news
  | 0, i, ys, news, hi, hj => CompRest.zero (fin ys news (by rw [← hi]; exact hj))
  | k + 1, i, ys, news, hi, hj => CompRest.succ fun v I oI C oC D m₂ h tk E' hP hC hx F N off ne =>
    wpAny_mono (turn i ys news v I oI C oC D m₂ h tk E' (by omega) hj hP hC hx F N off ne) (fun y s' ⟨h', tk', news', e, F', N', off', hS, hJ⟩ => ⟨h', tk', news', e, F', N', off', hS, comp_inv J turn fin k (i + 1) _ _ (by omega) hJ⟩) fun _ _ e => e
/-- over a list of the ledger, the ledger unchanged -/
theorem comp_keep {Fin : Shared → List Value → List (Addr × Obj) → Prop} {ax : Addr} {its : Array Value} {k : Nat} {news : List (Addr × Obj)} (P : Nat → List Value → Prop) (hh : A.handled = none) (F : Fr h₀ L s.heap m) (N : News h₀ L s.heap news) (hm : (ax, listOf its k) ∈ news) (hsz : its.size ≤ 16777216) (hP : P 0 [])
    (turn : ∀ i ys v I oI C oC D m₂ h tk (E' : Value → Shared → Prop), its[i]? = some v → P i ys → NsObj oC m₂ → m₂ x = some v → Fr h₀ L h m → News h₀ L h ((I, oI) :: (C, oC) :: (D, lst ys) :: news) → Off3 I C D news → ((@Ne Nat I C) ∧ (@Ne Nat I D) ∧ (@Ne Nat C D)) →
      wpAny (model prog w) A (eval elt (compEnvC scope cl C env)) (CompEnd h₀ L m { s with heap := h, toks := tk } I oI C oC D (lst ys) (SrcAt h₀ ax its) (fun y news' => news' = news ∧ P (i + 1) (ys ++ [y]))) E' { s with heap := h, toks := tk })
    (fin : ∀ g ys, P its.size ys → Fin { s with heap := g } ys news) : CompSrc prog w A h₀ L m env elt x scope cl Fin (.ref ax) s :=
  CompSrc.ledger (k := k) hh F N hm (by rw [sizeLine_eq]; exact hsz) fun g => comp_inv (fun i ys nx => nx = news ∧ P i ys) (fun i ys nx v I oI C oC D m₂ h tk E' _ hj hv hC hx F' N' off ne => by
    obtain ⟨rfl, hj⟩ := hj
    exact turn i ys v I oI C oC D m₂ h tk E' hv hj hC hx F' N' off ne) (fun ys nx hj => by
    obtain ⟨rfl, hj⟩ := hj
    exact fin g ys hj) its.size 0 [] news (by omega) ⟨rfl, hP⟩
end
theorem ints_all : ∀ {vs : List Value} {ns : List Int}, IntsAre vs ns → ∀ v ∈ vs, ∃ k t, v = Value.int k t
  | _, _, .nil, _, h => nomatch h
  | _, _, .cons i t r, v, h => by
    rcases List.mem_cons.mp h with rfl | h
    · exact ⟨_, _, rfl⟩
    · exact ints_all r v h
section
variable {prog : Program} {w : World} {A : Around} {E : Value → Shared → Prop} {s : Shared} {h₀ : Heap} {L : Addr} {m : Str → Option Value} {env : Env} {elt : Expr} {x : Str} {scope : Scope} {cl : List (Str × Addr)}
/-- over a range, any ledger between the turns -/
theorem comp_range {Fin : Shared → List Value → List (Addr × Obj) → Prop} {r : Addr} {b : Int} {t u v : Tok} {n : Nat} {news : List (Addr × Obj)} (J : Nat → List Value → List (Addr × Obj) → Prop) (hh : A.handled = none) (F : Fr h₀ L s.heap m) (N : News h₀ L s.heap news) (hr : IsRange s.heap r 0 b 1 t u v) (hb : b = (n : Int)) (hn : n ≤ 1000000) (hJ : J 0 [] news)
    (turn : ∀ i ys nx v I oI C oC D m₂ h tk (E' : Value → Shared → Prop), i < n → J i ys nx → NsObj oC m₂ → m₂ x = some v → Fr h₀ L h m → News h₀ L h ((I, oI) :: (C, oC) :: (D, lst ys) :: nx) → Off3 I C D nx → ((@Ne Nat I C) ∧ (@Ne Nat I D) ∧ (@Ne Nat C D)) →
      wpAny (model prog w) A (eval elt (compEnvC scope cl C env)) (CompEnd h₀ L m { s with heap := h, toks := tk } I oI C oC D (lst ys) (fun _ => True) (fun y news' => J (i + 1) (ys ++ [y]) news')) E' { s with heap := h, toks := tk })
    (fin : ∀ g ys nx, J n ys nx → Fin { s with heap := g } ys nx) : CompSrc prog w A h₀ L m env elt x scope cl Fin (.ref r) s := by
  subst hb
  have hsz : Builtin.Range.rangeSize 0 (n : Int) 1 = (n : Int) := by first | exact rangeSize_nat _ _ | (simp [Builtin.Range.rangeSize]; done)
  have hsmall : Builtin.Range.small 0 (n : Int) 1 = true := small_one (by omega) (by omega) (by omega) (by omega)
  exact CompSrc.range hh F N hr hsmall hsz (by rw [sizeLine_eq]; omega) fun g => comp_inv (s := { s with heap := g }) J (fun i ys nx v I oI C oC D m₂ h tk E' hi hj hv hC hx F' N' off ne => turn i ys nx v I oI C oC D m₂ h tk E' hi hj hC hx F' N' off ne) (fun ys nx hj => fin g ys nx hj) n 0 [] news (by omega) hJ
end
theorem news_rot4 {a b c d : Addr × Obj} {r : List (Addr × Obj)} : ∀ p ∈ d :: a :: b :: c :: r, p ∈ a :: b :: c :: d :: r := fun p hp => by
  rcases List.mem_cons.mp hp with rfl | hp
  · exact .tail _ (.tail _ (.tail _ (.head _)))
  · rcases List.mem_cons.mp hp with rfl | hp
    · exact .head _
    · rcases List.mem_cons.mp hp with rfl | hp
      · exact .tail _ (.head _)
      · rcases List.mem_cons.mp hp with rfl | hp
        · exact .tail _ (.tail _ (.head _))
        · exact .tail _ (.tail _ (.tail _ (.tail _ hp)))
theorem drop_slice {h₀ h : Heap} {L a b c : Addr} {o1 o2 o3 : Obj} {v : Value} (N : News h₀ L h [(a, o1), (b, o2), (c, o3)]) (hc : o3.data = .cell (some v)) : ∃ oc : Obj, oc.data = .cell (some v) ∧ News h₀ L h [(a, o1), (c, oc)] :=
  ⟨o3, hc, kst_newsOf N fun p hp => by
    rcases List.mem_cons.mp hp with rfl | hp
    · exact .head _
    · exact .tail _ (.tail _ hp)⟩
end
theorem fresh_hdr2 : ite True True True := by
  try (walk1; fail)
  w_top off
  exact trivial
local macro_rules | `(tactic| walk_at "compareOp In int bytes") => `(tactic| (k_here; (with_reducible show wpAny _ _ (compareOp CmpOp.In (Value.int _ _) (Value.bytes (List.toArray _) _)) _ _ _); k_dflt (refine my_inI (by exact rfl) ?_)))
local macro_rules | `(tactic| walk_at "compareOp In bytes bytes") => `(tactic| (k_here; (with_reducible show wpAny _ _ (compareOp CmpOp.In (Value.bytes (List.toArray _) _) (Value.bytes (List.toArray _) _)) _ _ _); (with_reducible rename Fr _ _ _ _ => F'); (with_reducible rename News _ _ _ _ => N'); (refine my_inB1 F' N' (by rfl) ?_); intro _ _ _ _; (try k_sweep)))
local macro_rules | `(tactic| walk_at "getMethod bytes") => `(tactic| (k_here; (with_reducible show wpAny _ _ (getMethod (Value.bytes (List.toArray _) _) _ _) _ _ _); (refine my_getjoin ?_)))
local macro_rules | `(tactic| walk_at "compareOp In int ref") => `(tactic| (k_here; (with_reducible show wpAny _ _ (compareOp CmpOp.In (Value.int _ _) (Value.ref 62)) _ _ _); k_dflt (first | (refine' never_no ?k1 ?k2 ?k3 ?k4 ?k5 ?_; (case k1 => k_asm); (case k2 => k_asm); (case k3 => k_is); (case k4 => ktr_units); (case k5 => omega); k_whole) | (refine' never_yes ?k1 ?k2 ?k3 ?k4 ?k5 ?_; (case k1 => k_asm); (case k2 => k_asm); (case k3 => k_is); (case k4 => ktr_units); (case k5 => omega); k_whole) | (refine' never_in ?k1 ?k2 ?k3 ?k4 ?_; (case k1 => k_asm); (case k2 => k_asm); (case k3 => k_is); (case k4 => ktr_units); k_whole))))
local macro_rules | `(tactic| walk_at "ite") => `(tactic| ((with_reducible show ite ((_ == _) = true) _ _); k_dflt (first
  | (refine PySem.W.ite_neg (by simp only [beq_iff_eq]; omega) ?_)
  | (refine PySem.W.ite_pos (by simp only [beq_iff_eq]; omega) ?_)
  | (refine PySem.W.ite_neg (by simp only [beq_iff_eq, List.cons.injEq, and_true, List.take_succ_cons, reduceCtorEq, false_and, and_false, not_false_eq_true]; first | done | assumption | exact fun h9 => absurd h9.1 (by assumption)) ?_)
  | (refine PySem.W.ite_pos (by simp only [beq_iff_eq, List.cons.injEq, and_true, List.take_succ_cons]; first | done | assumption) ?_))))
local macro_rules | `(tactic| walk_at "exec While Compare cons nil") => `(tactic| with_reducible refine stop ?_)
local macro_rules | `(tactic| walk_at "exec While BoolOp cons nil") => `(tactic| with_reducible refine stop ?_)
local macro_rules | `(tactic| walk_at "exec For Name Name cons nil") => `(tactic| with_reducible refine stop ?_)
local macro_rules | `(tactic| walk_at "exec For Name Call cons nil") => `(tactic| with_reducible refine stop ?_)
local macro_rules | `(tactic| walk_at "exec For Name Tuple cons nil") => `(tactic| with_reducible refine stop ?_)
local macro_rules | `(tactic| walk_at "call builtin:bytes.join") => `(tactic| (k_here; k_dflt (refine' my_joinE ?k1 ?k2 ?k3 ?k4 ?_; (case k1 => k_asm); (case k2 => k_mem); (case k3 => assumption); (case k4 => omega)); intro _ _))
local macro_rules | `(tactic| walk_at "ite") => `(tactic| ((with_reducible show ite ((_ != _) = true) _ _); k_dflt (first
  | (refine PySem.W.ite_neg (by simp only [bne_iff_ne, ne_eq, Classical.not_not]; first | done | rfl | assumption | omega) ?_)
  | (refine PySem.W.ite_pos (by simp only [bne_iff_ne, ne_eq, List.cons.injEq, and_true, List.take_succ_cons, reduceCtorEq, false_and, and_false, not_false_eq_true]; first | done | assumption | omega | exact fun h9 => absurd h9.1 (by assumption)) ?_))))
local macro_rules | `(tactic| walk_at "ite") => `(tactic| ((with_reducible show ite (_ = true) _ _); k_dflt (first
  | (refine PySem.W.ite_pos (by assumption) ?_)
  | (refine PySem.W.ite_neg (ne_true_of_eq_false (by assumption)) ?_))))
local macro_rules | `(tactic| walk_at "call builtin:list.append") => `(tactic| (k_here; (with_reducible show wpAny _ _ (call (Value.builtin _) [Value.ref _, _]) _ _ _); k_dflt (refine' my_append ?k1 ?k2 ?k3 ?k4 ?k5 ?k6 ?_; (case k1 => k_asm); (case k2 => k_asm); (case k4 => assumption); (case k3 => k_mem); (case k5 => first | exact fun _ h => h | exact fun _ h => .tail _ h | exact fun _ h => .tail _ (.tail _ h) | exact fun _ h => .tail _ (.tail _ (.tail _ h)) | exact news_skip2); (case k6 => assumption)); intro h' F' N'; (try k_sweep)))
local macro_rules | `(tactic| walk_at "subscriptTail") => `(tactic| (k_here; (with_reducible show wpAny _ _ (subscriptTail _ (Expr.Slice none _ none _) (Value.ref _) (Value.ref _)) _ _ _); (with_reducible rename Fr _ _ _ _ => F'); (with_reducible rename News _ _ _ _ => N'); k_dflt (refine my_butlast (s := ⟨_, _, _, _, _⟩) F' N' (by k_mem) (by assumption) ?_); intro D' h' F' N' l1; (try k_sweep)))
local macro_rules | `(tactic| walk_at "WhileStep2 ret") => `(tactic| dsimp only [WhileStep2])
local macro_rules | `(tactic| walk_at "call builtin:list.append") => `(tactic| (k_here; (with_reducible show wpAny _ _ (call (Value.builtin _) [Value.ref _, _]) _ _ _); k_dflt (refine' my_append_ne ?k1 ?k2 ?k3 ?k4 ?k5 ?k6 ?_; (case k1 => k_asm); (case k2 => k_asm); (case k4 => assumption); (case k3 => k_mem); (case k5 => first | exact fun _ h => h | exact fun _ h => .tail _ h | exact fun _ h => .tail _ (.tail _ h) | exact fun _ h => .tail _ (.tail _ (.tail _ h)) | exact news_skip2); (case k6 => assumption)); intro h' F' N'; (try k_sweep)))
local macro_rules | `(tactic| walk_at "pyIter ref") => `(tactic| with_reducible refine stop ?_)
local macro_rules | `(tactic| walk_at "pyIter bytes") => `(tactic| with_reducible refine stop ?_)
local macro_rules | `(tactic| walk_at "binaryOp Add bytes bytes") => `(tactic| (k_here; (with_reducible show wpAny _ _ (binaryOp Operator.Add (Value.bytes (List.toArray _) _) (Value.bytes (List.toArray _) _)) _ _ _); k_dflt (refine my_addB (by (try simp only [List.length_append, List.length_cons, List.length_nil]); omega) ?_); intro _ _))
local macro_rules | `(tactic| walk_at "binaryOp Sub int int") => `(tactic| (k_here; (with_reducible show wpAny _ _ (binaryOp Operator.Sub (Value.int (Nat.cast _) _) (Value.int _ _)) _ _ _); k_dflt (refine my_sub (by exact rfl) (by omega) ?_); intro _ _))
local macro_rules | `(tactic| walk_at "subscriptTail") => `(tactic| (k_here; (with_reducible show wpAny _ _ (subscriptTail _ _ (Value.ref _) (Value.int (Nat.cast _) _)) _ _ _); k_dflt (refine' my_litem ?k1 ?k2 (by exact rfl) ?k4 ?k5 ?_; (case k1 => k_asm); (case k4 => assumption); (case k2 => k_mem); (case k5 => omega))))
local macro_rules | `(tactic| walk_at "call builtin:len") => `(tactic| (k_here; (with_reducible show wpAny _ _ (call (Value.builtin "len") [Value.ref _]) _ _ _); k_dflt (refine' my_llen ?k1 ?k2 ?k3 ?_; (case k1 => k_asm); (case k2 => k_mem); (case k3 => omega)); intro _ _))
local macro_rules | `(tactic| k_mem) => `(tactic| with_reducible (first | assumption | exact List.mem_cons_of_mem _ (by assumption) | exact List.mem_cons_of_mem _ (List.mem_cons_of_mem _ (by assumption))))
theorem fresh_F1 : ite True True True := by
  try (walk1; fail)
  w_top off
  exact trivial
section
theorem line_end_tell (w : World) (news : List (Addr × Obj)) (b : B) (t : Tok) (i : Nat) (t' : Tok) (c : UInt8) (r : B) (hdr : b.drop i = c :: r) (h10 : c ≠ 10) (h13 : c ≠ 13) (hz : b.length ≤ 1000) :
    Tell w news 76 [.bytes b.toArray t, .int (i : Int) t'] 1 8 (fun v news' => news' = news ∧ ∃ t, v = .int (-1) t) := by
  unfold Tell
  intro mean mg mb dp un gd cn cs a ccd cl outer A₀ base h₀ L m s Q E Bw F X N T hk hd hu hret
  refine wpAny_call ?_
  k_dflt cell_enter
  k_steps
  all_goals exact hret _ _ _ _ ⟨rfl, _, rfl⟩ (by assumption) (by assumption)
noncomputable def atomSigns : B := [33, 35, 36, 37, 38, 39, 42, 43, 45, 47, 61, 63, 94, 95, 96, 123, 124, 125, 126]
noncomputable def isAtomB (c : UInt8) : Bool := (decide (48 ≤ c.toNat) && decide (c.toNat ≤ 57)) || (decide (65 ≤ c.toNat) && decide (c.toNat ≤ 90)) || (decide (97 ≤ c.toNat) && decide (c.toNat ≤ 122)) || decide (127 < c.toNat) || atomSigns.contains c
theorem is_atom_tell (w : World) (news : List (Addr × Obj)) (c : UInt8) (t : Tok) :
    Tell w news 69 [.int (c.toNat : Int) t] 1 8 (fun v news' => news' = news ∧ v = .bool (isAtomB c)) := by
  unfold Tell
  intro mean mg mb dp un gd cn cs a ccd cl outer A₀ base h₀ L m s Q E Bw F X N T hk hd hu hret
  refine wpAny_call ?_
  k_dflt cell_enter
  k_steps
  all_goals (refine hret _ _ _ _ ⟨rfl, ?_⟩ (by assumption) (by assumption))
  all_goals
    rw [Value.bool.injEq, Bool.eq_iff_iff]
    simp only [isAtomB, Bool.or_eq_true, Bool.and_eq_true, decide_eq_true_eq]
    show _ ↔ _ ∨ (atomSigns.contains c = true)
    try change atomSigns.contains c = true ↔ _
    generalize atomSigns.contains c = k
    cases k <;> simp <;> omega
end
theorem fresh_F2 : ite True True True := by
  try (walk1; fail)
  w_top off
  exact trivial
section
/-- one octet that stands for itself -/
noncomputable def plainB (c : UInt8) : Prop := c ≠ 0 ∧ c ≠ 10 ∧ c ≠ 13 ∧ c ≠ 92
theorem drop_len {b : B} {i : Nat} {c : UInt8} {r : B} (h : b.drop i = c :: r) : b.length = i + 1 + r.length := by
  have := congrArg List.length h
  simp at this
  omega
theorem drop_next {b : B} {i : Nat} {c : UInt8} {r : B} (h : b.drop i = c :: r) : b.drop (i + 1) = r := by
  rw [← List.drop_drop, h]; rfl
theorem toNat_ne {c d : UInt8} (h : c ≠ d) : (c.toNat : Int) ≠ (d.toNat : Int) := fun e => h (UInt8.toNat_inj.mp (by omega))
local macro_rules | `(tactic| walk_at "call ref") => `(tactic| ((with_reducible show wpAny _ _ (call (Value.ref 76) _) _ _ _); k_dflt (refine' Tell.use (line_end_tell _ _ _ _ _ _ _ _ (by assumption) (by assumption) (by assumption) (by assumption)) ?k1 ?k2 ?k3 ?k4 ?k5 ?kK ?kd ?ku ?_; (case k1 => k_asm); (case k2 => k_asm); (case k3 => k_asm); (case k4 => k_asm); (case k5 => k_asm); (case kK => first | exact rfl | assumption); (case kd => ktr_room); (case ku => ktr_units)); (intro v9 n9 h9 tk9 p9 F9 N9; obtain ⟨e9, t9, e8⟩ := p9; subst n9; subst v9); (try dsimp only); (try k_sweep); (try k_fold)))
theorem inside_plain_tell (w : World) (news : List (Addr × Obj)) (b : B) (t : Tok) (i g : Nat) (t' tg : Tok) (c : UInt8) (r : B) (hdr : b.drop i = c :: r) (hc : plainB c) (hz : b.length ≤ 1000) :
    Tell w news 83 [.bytes b.toArray t, .int (i : Int) t', .int (g : Int) tg] 2 16 (fun v news' => ∃ q n t1 t2, v = .ref q ∧ news' = (q, ({ cls := .type "tuple", data := .seq [Value.bytes [c].toArray t1, Value.int ((i + 1 : Nat) : Int) t2].toArray n } : Obj)) :: news) := by
  have hlen := drop_len hdr
  obtain ⟨c0, c10, c13, c92⟩ := hc
  have n0 : (c.toNat : Int) ≠ 0 := toNat_ne c0
  have n10 : (c.toNat : Int) ≠ 10 := toNat_ne c10
  have n13 : (c.toNat : Int) ≠ 13 := toNat_ne c13
  have n92 : (c.toNat : Int) ≠ 92 := toNat_ne c92
  unfold Tell
  intro mean mg mb dp un gd cn cs a ccd cl outer A₀ base h₀ L m s Q E Bw F X N T hk hd hu hret
  refine wpAny_call ?_
  k_dflt cell_enter
  k_steps
  all_goals exact hret _ _ _ _ ⟨_, _, _, _, rfl, rfl⟩ (by assumption) (by assumption)
theorem inside_escaped_tell (w : World) (news : List (Addr × Obj)) (b : B) (t : Tok) (i g : Nat) (t' tg : Tok) (c : UInt8) (r : B) (hdr : b.drop i = 92 :: c :: r) (hc : c ≠ 0 ∧ c ≠ 10 ∧ c ≠ 13) (hz : b.length ≤ 1000) :
    Tell w news 83 [.bytes b.toArray t, .int (i : Int) t', .int (g : Int) tg] 2 16 (fun v news' => ∃ q n t1 t2, v = .ref q ∧ news' = (q, ({ cls := .type "tuple", data := .seq [Value.bytes [c].toArray t1, Value.int ((i + 2 : Nat) : Int) t2].toArray n } : Obj)) :: news) := by
  have hlen := drop_len hdr
  rw [List.length_cons] at hlen
  have hdr1 := drop_next hdr
  obtain ⟨c0, c10, c13⟩ := hc
  have n0 : (c.toNat : Int) ≠ 0 := toNat_ne c0
  have n10 : (c.toNat : Int) ≠ 10 := toNat_ne c10
  have n13 : (c.toNat : Int) ≠ 13 := toNat_ne c13
  have n92 : ((92 : UInt8).toNat : Int) = 92 := rfl
  unfold Tell
  intro mean mg mb dp un gd cn cs a ccd cl outer A₀ base h₀ L m s Q E Bw F X N T hk hd hu hret
  refine wpAny_call ?_
  k_dflt cell_enter
  k_steps
  all_goals exact hret _ _ _ _ ⟨_, _, _, _, rfl, rfl⟩ (by assumption) (by assumption)
end
theorem fresh_F3 : ite True True True := by
  try (walk1; fail)
  w_top off
  exact trivial
section
noncomputable def esc (bar : B) : B → B
  | [] => []
  | c :: r => if bar.contains c then 92 :: c :: esc bar r else c :: esc bar r
theorem esc_append (bar : B) : ∀ a b : B, esc bar (a ++ b) = esc bar a ++ esc bar b
  | [], b => rfl
  | c :: a, b => by
    show (if bar.contains c then 92 :: c :: esc bar (a ++ b) else c :: esc bar (a ++ b)) = _
    rw [esc_append bar a b]
    show _ = (if bar.contains c then 92 :: c :: esc bar a else c :: esc bar a) ++ _
    split <;> rfl
local macro_rules | `(tactic| walk_at "call ref") => `(tactic| ((with_reducible show wpAny _ _ (call (Value.ref 83) _) _ _ _); k_dflt (refine' Tell.use (inside_plain_tell _ _ _ _ _ _ _ _ _ _ (by assumption) (by assumption) (by assumption)) ?k1 ?k2 ?k3 ?k4 ?k5 ?kK ?kd ?ku ?_; (case k1 => k_asm); (case k2 => k_asm); (case k3 => k_asm); (case k4 => k_asm); (case k5 => k_asm); (case kK => first | exact rfl | assumption); (case kd => ktr_room); (case ku => ktr_units)); (intro v9 n9 h9 tk9 p9 F9 N9; obtain ⟨q9, m9, t9, u9, e9, e8⟩ := p9; subst v9; subst n9); (try dsimp only); (try k_sweep); (try k_fold)))
local macro_rules | `(tactic| walk_at "call ref") => `(tactic| ((with_reducible show wpAny _ _ (call (Value.ref 83) _) _ _ _); k_dflt (refine' Tell.use (inside_escaped_tell _ _ _ _ _ _ _ _ _ _ (by assumption) (by assumption) (by assumption)) ?k1 ?k2 ?k3 ?k4 ?k5 ?kK ?kd ?ku ?_; (case k1 => k_asm); (case k2 => k_asm); (case k3 => k_asm); (case k4 => k_asm); (case k5 => k_asm); (case kK => first | exact rfl | assumption); (case kd => ktr_room); (case ku => ktr_units)); (intro v9 n9 h9 tk9 p9 F9 N9; obtain ⟨q9, m9, t9, u9, e9, e8⟩ := p9; subst v9; subst n9); (try dsimp only); (try k_sweep); (try k_fold)))
abbrev tup2 (v w : Value) (n : Nat) : Obj := { cls := .type "tuple", data := .seq [v, w].toArray n }
theorem closed_tell (w : World) (news : List (Addr × Obj)) (b : B) (t : Tok) (g : Nat) (tg : Tok) (cl : UInt8) (tc : Tok) (barred : B) (tb : Tok) (bar wo post : B)
    (hdr : b.drop (g + 1) = esc bar wo ++ cl :: post) (hcl : bar.contains cl = true) (h92 : bar.contains 92 = true) (hb : ∀ c, barred.contains c = true → bar.contains c = true) (hb92 : barred.contains 92 = false) (hcl92 : cl ≠ 92)
    (hw : ∀ c ∈ wo, c ≠ 0 ∧ c ≠ 10 ∧ c ≠ 13) (hz : b.length ≤ 1000) :
    Tell w news 90 [.bytes b.toArray t, .int (g : Int) tg, .bytes [cl].toArray tc, .bytes barred.toArray tb] 3 24 (fun v news' => ∃ q n t1 t2, v = .ref q ∧ news' = (q, tup2 (Value.bytes wo.toArray t1) (Value.int ((g + 1 + (esc bar wo).length + 1 : Nat) : Int) t2) n) :: news) := by
  unfold Tell
  intro mean mg mb dp un gd cn cs a ccd cl' outer A₀ base h₀ L m s Q E Bw F X N T hk hd hu hret
  refine wpAny_call ?_
  k_dflt cell_enter
  k_steps
  rename_i l h2 l1 h3 t1 n1 h1 F1 N1
  refine unstop ?_
  refine While_inv (fun n m nx => ∃ (pre suf : B) (i : Nat) (ti : Tok) (items : List (B × Tok)) (k : Nat), wo = pre ++ suf ∧ n = suf.length ∧ b.drop i = esc bar suf ++ cl :: post ∧ i = g + 1 + (esc bar pre).length ∧ items.map (·.1) = pre.map (fun c => [c]) ∧ nx = (l, listOf (bvals items).toArray k) :: news ∧
    AllAt m [(Str.ofString "data", .bytes b.toArray t), (Str.ofString "begun", .int (g : Int) tg), (Str.ofString "closing", .bytes [cl].toArray tc), (Str.ofString "barred", .bytes barred.toArray tb), (Str.ofString "at", .int (i : Int) ti), (Str.ofString "parts", .ref l)])
    F1 N1 ⟨[], wo, g + 1, _, [], 0, rfl, rfl, hdr, rfl, rfl, rfl, rfl, rfl, rfl, rfl, rfl, rfl, trivial⟩ ?_
  rintro n m₁ nx h₁ tk₁ F₁ N₁ ⟨pre, suf, i, ti, items, k, hwo, hn, hdi, hi, hit, hnx, hm⟩
  subst hnx
  have F₂ := ats F₁ hm
  clear F₁ F1 N1
  have hwl : wo.length ≤ 1000 := by
    have h9 := congrArg List.length hdr
    have h8 : ∀ z : B, z.length ≤ (esc bar z).length := by
      intro z
      induction z with
      | nil => exact Nat.le_refl _
      | cons x z ih => simp only [esc]; split <;> simp only [List.length_cons] <;> omega
    have h7 := h8 wo
    simp only [List.length_drop, List.length_append, List.length_cons] at h9
    omega
  rcases suf with _ | ⟨c, suf⟩
  · have hd0 : b.drop i = cl :: post := hdi
    have hlen := drop_len hd0
    have hwo' : pre = wo := by rw [hwo, List.append_nil]
    have hj : jn [] (items.map (·.1)) = wo := by rw [hit, jn_ones, hwo']
    k_steps
    exact fin_ret hret (_ :: news) (by assumption) (by assumption) news_skip2 ⟨_, _, _, _, rfl, by rw [← hwo', ← hi]⟩
  · have hcw := hw c (by rw [hwo]; simp)
    have hpl : pre.length ≤ 1000 := by
      have := congrArg List.length hwo
      simp only [List.length_append, List.length_cons] at this
      omega
    have hsz0 : (bvals items).toArray.size ≤ 16777216 := by
      have := congrArg List.length hit
      rw [bvals_size]
      simp only [List.length_map] at this
      omega
    by_cases hc : bar.contains c = true
    · have hd0 : b.drop i = 92 :: c :: (esc bar suf ++ cl :: post) := by rw [hdi]; simp only [esc, hc, if_true]; rfl
      have hlen := drop_len hd0
      have hne : (92 : UInt8) ≠ cl := fun e => hcl92 e.symm
      have hi2 : i + 2 = g + 1 + (esc bar (pre ++ [c])).length := by
        rw [esc_append, List.length_append, hi]
        simp only [esc, hc, if_true, List.length_cons, List.length_nil]
        omega
      k_steps
      exact WhileStep.intro (by assumption) (by assumption) (by rw [hn]; exact Nat.lt_succ_self _) ⟨pre ++ [c], suf, _, _, items ++ [([c], _)], _, by rw [hwo]; simp, rfl, drop_next (drop_next hd0), hi2, by rw [List.map_append, List.map_append, hit]; rfl, by rw [bvals_snoc], rfl, rfl, rfl, rfl, rfl, rfl, trivial⟩
    · have hd0 : b.drop i = c :: (esc bar suf ++ cl :: post) := by rw [hdi]; simp only [esc, hc]; rfl
      have hlen := drop_len hd0
      have hne : c ≠ cl := fun e => hc (by rw [e]; exact hcl)
      have hcb : barred.contains c = false := by
        cases h9 : barred.contains c with
        | false => rfl
        | true => exact absurd (hb c h9) hc
      have hp : plainB c := ⟨hcw.1, hcw.2.1, hcw.2.2, fun e => hc (by rw [e]; exact h92)⟩
      have hi2 : i + 1 = g + 1 + (esc bar (pre ++ [c])).length := by
        rw [esc_append, List.length_append, hi]
        have e : (esc bar [c]).length = 1 := by
          simp only [esc]
          rw [if_neg hc]
          rfl
        rw [e]
        omega
      k_steps
      exact WhileStep.intro (by assumption) (by assumption) (by rw [hn]; exact Nat.lt_succ_self _) ⟨pre ++ [c], suf, _, _, items ++ [([c], _)], _, by rw [hwo]; simp, rfl, drop_next hd0, hi2, by rw [List.map_append, List.map_append, hit]; rfl, by rw [bvals_snoc], rfl, rfl, rfl, rfl, rfl, rfl, trivial⟩
end
theorem fresh_F4 : ite True True True := by
  try (walk1; fail)
  w_top off
  exact trivial
section
local macro_rules | `(tactic| walk_at "call ref") => `(tactic| ((with_reducible show wpAny _ _ (call (Value.ref 83) _) _ _ _); k_dflt (refine' Tell.use (inside_plain_tell _ _ _ _ _ _ _ _ _ _ (by assumption) (by assumption) (by assumption)) ?k1 ?k2 ?k3 ?k4 ?k5 ?kK ?kd ?ku ?_; (case k1 => k_asm); (case k2 => k_asm); (case k3 => k_asm); (case k4 => k_asm); (case k5 => k_asm); (case kK => first | exact rfl | assumption); (case kd => ktr_room); (case ku => ktr_units)); (intro v9 n9 h9 tk9 p9 F9 N9; obtain ⟨q9, m9, t9, u9, e9, e8⟩ := p9; subst v9; subst n9); (try dsimp only); (try k_sweep); (try k_fold)))
local macro_rules | `(tactic| walk_at "call ref") => `(tactic| ((with_reducible show wpAny _ _ (call (Value.ref 83) _) _ _ _); k_dflt (refine' Tell.use (inside_escaped_tell _ _ _ _ _ _ _ _ _ _ (by assumption) (by assumption) (by assumption)) ?k1 ?k2 ?k3 ?k4 ?k5 ?kK ?kd ?ku ?_; (case k1 => k_asm); (case k2 => k_asm); (case k3 => k_asm); (case k4 => k_asm); (case k5 => k_asm); (case kK => first | exact rfl | assumption); (case kd => ktr_room); (case ku => ktr_units)); (intro v9 n9 h9 tk9 p9 F9 N9; obtain ⟨q9, m9, t9, u9, e9, e8⟩ := p9; subst v9; subst n9); (try dsimp only); (try k_sweep); (try k_fold)))
noncomputable def barC : B := [40, 41, 92]
theorem comment_tell (w : World) (news : List (Addr × Obj)) (b : B) (t : Tok) (g : Nat) (tg : Tok) (wo post : B)
    (hdr : b.drop (g + 1) = esc barC wo ++ 41 :: post) (hw : ∀ c ∈ wo, c ≠ 0 ∧ c ≠ 10 ∧ c ≠ 13) (hz : b.length ≤ 1000) :
    Tell w news 97 [.bytes b.toArray t, .int (g : Int) tg] 3 24 (fun v news' => ∃ q n t1 t2, v = .ref q ∧ news' = (q, tup2 (Value.bytes wo.toArray t1) (Value.int ((g + 1 + (esc barC wo).length + 1 : Nat) : Int) t2) n) :: news) := by
  unfold Tell
  intro mean mg mb dp un gd cn cs a ccd cl' outer A₀ base h₀ L m s Q E Bw F X N T hk hd hu hret
  refine wpAny_call ?_
  k_dflt cell_enter
  k_steps
  rename_i l h2 l1 h3 t1 h4 n1 h1 F1 N1
  refine unstop ?_
  have hwl : wo.length ≤ 1000 := by
    have h9 := congrArg List.length hdr
    have h8 : ∀ z : B, z.length ≤ (esc barC z).length := by
      intro z
      induction z with
      | nil => exact Nat.le_refl _
      | cons x z ih => simp only [esc]; split <;> simp only [List.length_cons] <;> omega
    have h7 := h8 wo
    simp only [List.length_drop, List.length_append, List.length_cons] at h9
    omega
  refine While_inv (fun n m nx => (∃ (pre suf : B) (i : Nat) (ti td : Tok) (items : List (B × Tok)) (k : Nat), wo = pre ++ suf ∧ n = suf.length + 1 ∧ b.drop i = esc barC suf ++ 41 :: post ∧ i = g + 1 + (esc barC pre).length ∧ items.map (·.1) = pre.map (fun c => [c]) ∧ nx = (l, listOf (bvals items).toArray k) :: news ∧
    AllAt m [(Str.ofString "data", .bytes b.toArray t), (Str.ofString "begun", .int (g : Int) tg), (Str.ofString "depth", .int 1 td), (Str.ofString "at", .int (i : Int) ti), (Str.ofString "parts", .ref l)]) ∨
    (∃ (ti td tl : Tok) (items : List (B × Tok)) (k : Nat), n = 0 ∧ items.map (·.1) = wo.map (fun c => [c]) ∧ nx = (l, listOf (bvals (items ++ [([41], tl)])).toArray k) :: news ∧
    AllAt m [(Str.ofString "data", .bytes b.toArray t), (Str.ofString "begun", .int (g : Int) tg), (Str.ofString "depth", .int 0 td), (Str.ofString "at", .int ((g + 1 + (esc barC wo).length + 1 : Nat) : Int) ti), (Str.ofString "parts", .ref l)]))
    F1 N1 (.inl ⟨[], wo, g + 1, _, _, [], 0, rfl, rfl, hdr, rfl, rfl, rfl, rfl, rfl, rfl, rfl, rfl, trivial⟩) ?_
  rintro n m₁ nx h₁ tk₁ F₁ N₁ (⟨pre, suf, i, ti, td, items, k, hwo, hn, hdi, hi, hit, hnx, hm⟩ | ⟨ti, td, tl, items, k, hn, hit, hnx, hm⟩)
  · subst hnx
    have F₂ := ats F₁ hm
    clear F₁ F1 N1
    have hpl : pre.length ≤ 1000 := by
      have := congrArg List.length hwo
      simp only [List.length_append] at this
      omega
    have hsz0 : (bvals items).toArray.size ≤ 16777216 := by
      have := congrArg List.length hit
      rw [bvals_size]
      simp only [List.length_map] at this
      omega
    rcases suf with _ | ⟨c, suf⟩
    · have hwo' : wo = pre := by rw [hwo, List.append_nil]
      subst hwo'
      subst hi
      have hd0 : b.drop (g + 1 + (esc barC wo).length) = 41 :: post := hdi
      have hlen := drop_len hd0
      have hp : plainB 41 := by unfold plainB; decide
      have h41 : (41 : UInt8) ≠ 40 := by decide
      k_steps
      exact WhileStep.intro (by assumption) (by assumption) (by rw [hn]; exact Nat.succ_pos _) (.inr ⟨_, _, _, items, _, rfl, hit, by rw [bvals_snoc], rfl, rfl, rfl, rfl, rfl, trivial⟩)
    · have hcw := hw c (by rw [hwo]; simp)
      by_cases hc : barC.contains c = true
      · have hd0 : b.drop i = 92 :: c :: (esc barC suf ++ 41 :: post) := by rw [hdi]; simp only [esc, hc, if_true]; rfl
        have hlen := drop_len hd0
        have hi2 : i + 2 = g + 1 + (esc barC (pre ++ [c])).length := by
          rw [esc_append, List.length_append, hi]
          simp only [esc, hc, if_true, List.length_cons, List.length_nil]
          omega
        have hne1 : (92 : UInt8) ≠ 40 := by decide
        have hne2 : (92 : UInt8) ≠ 41 := by decide
        k_steps
        exact WhileStep.intro (by assumption) (by assumption) (by rw [hn]; exact Nat.lt_succ_self _) (.inl ⟨pre ++ [c], suf, _, _, _, items ++ [([c], _)], _, by rw [hwo]; simp, rfl, drop_next (drop_next hd0), hi2, by rw [List.map_append, List.map_append, hit]; rfl, by rw [bvals_snoc], rfl, rfl, rfl, rfl, rfl, trivial⟩)
      · have hd0 : b.drop i = c :: (esc barC suf ++ 41 :: post) := by rw [hdi]; simp only [esc, hc]; rfl
        have hlen := drop_len hd0
        have hi2 : i + 1 = g + 1 + (esc barC (pre ++ [c])).length := by
          rw [esc_append, List.length_append, hi]
          have e : (esc barC [c]).length = 1 := by
            simp only [esc]
            rw [if_neg hc]
            rfl
          rw [e]
          omega
        have hne1 : c ≠ 40 := fun e => hc (by rw [e]; rfl)
        have hne2 : c ≠ 41 := fun e => hc (by rw [e]; rfl)
        have hp : plainB c := ⟨hcw.1, hcw.2.1, hcw.2.2, fun e => hc (by rw [e]; rfl)⟩
        k_steps
        exact WhileStep.intro (by assumption) (by assumption) (by rw [hn]; exact Nat.lt_succ_self _) (.inl ⟨pre ++ [c], suf, _, _, _, items ++ [([c], _)], _, by rw [hwo]; simp, rfl, drop_next hd0, hi2, by rw [List.map_append, List.map_append, hit]; rfl, by rw [bvals_snoc], rfl, rfl, rfl, rfl, rfl, trivial⟩)
  · subst hnx
    have F₂ := ats F₁ hm
    clear F₁ F1 N1
    have hj : jn [] (items.map (·.1)) = wo := by rw [hit, jn_ones]
    have hil : items.length ≤ 1000000 := by
      have := congrArg List.length hit
      simp only [List.length_map] at this
      omega
    k_steps
    exact fin_ret hret (_ :: news) (by assumption) (by assumption) news_skip3 ⟨_, _, _, _, rfl, rfl⟩
end
theorem fresh_F5 : ite True True True := by
  try (walk1; fail)
  w_top off
  exact trivial
section
local macro_rules | `(tactic| walk_at "call ref") => `(tactic| ((with_reducible show wpAny _ _ (call (Value.ref 76) _) _ _ _); k_dflt (refine' Tell.use (line_end_tell _ _ _ _ _ _ _ _ (by assumption) (by assumption) (by assumption) (by assumption)) ?k1 ?k2 ?k3 ?k4 ?k5 ?kK ?kd ?ku ?_; (case k1 => k_asm); (case k2 => k_asm); (case k3 => k_asm); (case k4 => k_asm); (case k5 => k_asm); (case kK => first | exact rfl | assumption); (case kd => ktr_room); (case ku => ktr_units)); (intro v9 n9 h9 tk9 p9 F9 N9; obtain ⟨e9, t9, e8⟩ := p9; subst n9; subst v9); (try dsimp only); (try k_sweep); (try k_fold)))
local macro_rules | `(tactic| walk_at "call ref") => `(tactic| ((with_reducible show wpAny _ _ (call (Value.ref 69) _) _ _ _); k_dflt (refine' Tell.use (is_atom_tell _ _ _ _) ?k1 ?k2 ?k3 ?k4 ?k5 ?kK ?kd ?ku ?_; (case k1 => k_asm); (case k2 => k_asm); (case k3 => k_asm); (case k4 => k_asm); (case k5 => k_asm); (case kK => first | exact rfl | assumption); (case kd => ktr_room); (case ku => ktr_units)); (intro v9 n9 h9 tk9 p9 F9 N9; obtain ⟨e9, e8⟩ := p9; subst n9; subst v9); (try dsimp only); (try k_sweep); (try k_fold)))
theorem atom_tell (w : World) (news : List (Addr × Obj)) (b : B) (t : Tok) (i : Nat) (ti : Tok) (wo rest : B)
    (hdr : b.drop i = wo ++ rest) (hw : ∀ c ∈ wo, isAtomB c = true) (hr : ∀ c r, rest = c :: r → isAtomB c = false) (hz : b.length ≤ 1000) (hiz : i ≤ b.length) :
    Tell w news 104 [.bytes b.toArray t, .int (i : Int) ti] 2 16 (fun v news' => ∃ q n t1 t2, v = .ref q ∧ news' = (q, tup2 (Value.bytes wo.toArray t1) (Value.int ((i + wo.length : Nat) : Int) t2) n) :: news) := by
  unfold Tell
  intro mean mg mb dp un gd cn cs a ccd cl' outer A₀ base h₀ L m s Q E Bw F X N T hk hd hu hret
  refine wpAny_call ?_
  k_dflt cell_enter
  k_steps
  (with_reducible rename Fr _ _ _ _ => F1)
  (with_reducible rename News _ _ _ _ => N1)
  refine unstop ?_
  have hlen : b.length = i + wo.length + rest.length := by
    have := congrArg List.length hdr
    simp only [List.length_drop, List.length_append] at this
    omega
  refine While_inv (fun n m nx => ∃ (pre suf : B) (e : Nat) (te : Tok), wo = pre ++ suf ∧ n = suf.length ∧ b.drop e = suf ++ rest ∧ e = i + pre.length ∧ nx = news ∧
    AllAt m [(Str.ofString "data", .bytes b.toArray t), (Str.ofString "at", .int (i : Int) ti), (Str.ofString "end", .int (e : Int) te)])
    F1 N1 ⟨[], wo, i, _, rfl, rfl, hdr, rfl, rfl, rfl, rfl, rfl, trivial⟩ ?_
  rintro n m₁ nx h₁ tk₁ F₁ N₁ ⟨pre, suf, e, te, hwo, hn, hde, he, hnx, hm⟩
  subst nx
  have F₂ := ats F₁ hm
  clear F₁ F1 N1
  rcases suf with _ | ⟨c, suf⟩
  · have hwo' : wo = pre := by rw [hwo, List.append_nil]
    subst hwo'
    subst he
    rcases rest with _ | ⟨c, r⟩
    · have hl0 : b.length = i + wo.length := by simpa using hlen
      k_steps
      exact fin_ret hret (_ :: news) (by assumption) (by assumption) (fun _ h => h) ⟨_, _, _, _, rfl, by rw [List.take_left]⟩
    · have hd0 : b.drop (i + wo.length) = c :: r := hde
      have hca := hr c r rfl
      have hl0 := drop_len hd0
      k_steps
      exact fin_ret hret (_ :: news) (by assumption) (by assumption) (fun _ h => h) ⟨_, _, _, _, rfl, by rw [List.take_left]⟩
  · have hd0 : b.drop e = c :: (suf ++ rest) := hde
    have hca := hw c (by rw [hwo]; simp)
    have hl0 := drop_len hd0
    k_steps
    exact WhileStep.intro (by assumption) (by assumption) (by rw [hn]; exact Nat.lt_succ_self _) ⟨pre ++ [c], suf, _, _, by rw [hwo]; simp, rfl, drop_next hd0, by rw [he, List.length_append]; rfl, rfl, rfl, rfl, rfl, trivial⟩
noncomputable def spaceB (c : UInt8) : Prop := c = 9 ∨ c = 32 ∨ c = 10 ∨ c = 13
theorem white_tell (w : World) (news : List (Addr × Obj)) (b : B) (t : Tok) (i : Nat) (ti : Tok) (sp rest : B)
    (hdr : b.drop i = sp ++ rest) (hs : sp = [] ∨ sp = [32]) (hr : ∀ c r, rest = c :: r → ¬ spaceB c) (hz : b.length ≤ 1000) (hiz : i ≤ b.length) :
    Tell w news 118 [.bytes b.toArray t, .int (i : Int) ti] 2 16 (fun v news' => news' = news ∧ ∃ t, v = .int ((i + sp.length : Nat) : Int) t) := by
  unfold Tell
  intro mean mg mb dp un gd cn cs a ccd cl' outer A₀ base h₀ L m s Q E Bw F X N T hk hd hu hret
  refine wpAny_call ?_
  k_dflt cell_enter
  k_steps
  (with_reducible rename Fr _ _ _ _ => F1)
  (with_reducible rename News _ _ _ _ => N1)
  refine unstop ?_
  have hlen : b.length = i + sp.length + rest.length := by
    have := congrArg List.length hdr
    simp only [List.length_drop, List.length_append] at this
    omega
  refine While_inv2 (fun n m nx => ∃ (pre suf : B) (e : Nat) (te : Tok), sp = pre ++ suf ∧ n = suf.length ∧ b.drop e = suf ++ rest ∧ e = i + pre.length ∧ nx = news ∧
    AllAt m [(Str.ofString "data", .bytes b.toArray t), (Str.ofString "at", .int (e : Int) te)])
    F1 N1 ⟨[], sp, i, _, rfl, rfl, hdr, rfl, rfl, rfl, rfl, trivial⟩ ?_
  rintro n m₁ nx h₁ tk₁ F₁ N₁ ⟨pre, suf, e, te, hwo, hn, hde, he, hnx, hm⟩
  subst nx
  have F₂ := ats F₁ hm
  clear F₁ F1 N1
  rcases suf with _ | ⟨c, suf⟩
  · have hwo' : sp = pre := by rw [hwo, List.append_nil]
    subst hwo'
    subst he
    rcases rest with _ | ⟨c, r⟩
    · have hl0 : b.length = i + sp.length := by simpa using hlen
      k_steps
      exact fin_ret hret news (by assumption) (by assumption) (fun _ h => h) ⟨rfl, _, rfl⟩
    · have hd0 : b.drop (i + sp.length) = c :: r := hde
      have hc := hr c r rfl
      have hl0 := drop_len hd0
      have c9 : c ≠ 9 := fun e => hc (.inl e)
      have c32 : c ≠ 32 := fun e => hc (.inr (.inl e))
      have c10 : c ≠ 10 := fun e => hc (.inr (.inr (.inl e)))
      have c13 : c ≠ 13 := fun e => hc (.inr (.inr (.inr e)))
      have n9 : (c.toNat : Int) ≠ 9 := toNat_ne c9
      have n32 : (c.toNat : Int) ≠ 32 := toNat_ne c32
      have hany : (([9, 32] : List Int).any fun x => x == (c.toNat : Int)) = false := by
        simp only [List.any_cons, List.any_nil, Bool.or_false, Bool.or_eq_false_iff, beq_eq_false_iff_ne]
        omega
      k_steps
      exact fin_ret hret news (by assumption) (by assumption) (fun _ h => .tail _ h) ⟨rfl, _, rfl⟩
  · have hc : c = 32 := by
      have : c ∈ sp := by rw [hwo]; simp
      rcases hs with rfl | rfl
      · cases this
      · simpa using this
    subst hc
    have hd0 : b.drop e = 32 :: (suf ++ rest) := hde
    have hl0 := drop_len hd0
    k_steps
    exact ⟨_, _, _, news, _, rfl, by assumption, kst_newsOf (by assumption) (fun _ h => .tail _ h), by rw [hn]; exact Nat.lt_succ_self _, pre ++ [32], suf, _, _, by rw [hwo]; simp, rfl, drop_next hd0, by rw [he, List.length_append]; rfl, rfl, rfl, rfl, trivial⟩
end
theorem fresh_F6 : ite True True True := by
  try (walk1; fail)
  w_top off
  exact trivial
section
local macro_rules | `(tactic| walk_at "call ref") => `(tactic| ((with_reducible show wpAny _ _ (call (Value.ref 90) _) _ _ _); k_dflt (refine' Tell.use (closed_tell _ _ _ _ _ _ _ _ _ _ _ _ _ (by assumption) (by decide) (by decide) (by assumption) (by decide) (by decide) (by assumption) (by assumption)) ?k1 ?k2 ?k3 ?k4 ?k5 ?kK ?kd ?ku ?_; (case k1 => k_asm); (case k2 => k_asm); (case k3 => k_asm); (case k4 => k_asm); (case k5 => k_asm); (case kK => first | exact rfl | assumption); (case kd => ktr_room); (case ku => ktr_units)); (intro v9 n9 h9 tk9 p9 F9 N9; obtain ⟨q9, m9, t9, u9, e9, e8⟩ := p9; subst v9; subst n9); (try dsimp only); (try k_sweep); (try k_fold)))
local macro_rules | `(tactic| walk_at "call ref") => `(tactic| ((with_reducible show wpAny _ _ (call (Value.ref 97) _) _ _ _); k_dflt (refine' Tell.use (comment_tell _ _ _ _ _ _ _ _ (by assumption) (by assumption) (by assumption)) ?k1 ?k2 ?k3 ?k4 ?k5 ?kK ?kd ?ku ?_; (case k1 => k_asm); (case k2 => k_asm); (case k3 => k_asm); (case k4 => k_asm); (case k5 => k_asm); (case kK => first | exact rfl | assumption); (case kd => ktr_room); (case ku => ktr_units)); (intro v9 n9 h9 tk9 p9 F9 N9; obtain ⟨q9, m9, t9, u9, e9, e8⟩ := p9; subst v9; subst n9); (try dsimp only); (try k_sweep); (try k_fold)))
local macro_rules | `(tactic| walk_at "call ref") => `(tactic| ((with_reducible show wpAny _ _ (call (Value.ref 104) _) _ _ _); k_dflt (refine' Tell.use (atom_tell _ _ _ _ _ _ _ _ (by assumption) (by assumption) (by assumption) (by assumption) (by assumption)) ?k1 ?k2 ?k3 ?k4 ?k5 ?kK ?kd ?ku ?_; (case k1 => k_asm); (case k2 => k_asm); (case k3 => k_asm); (case k4 => k_asm); (case k5 => k_asm); (case kK => first | exact rfl | assumption); (case kd => ktr_room); (case ku => ktr_units)); (intro v9 n9 h9 tk9 p9 F9 N9; obtain ⟨q9, m9, t9, u9, e9, e8⟩ := p9; subst v9; subst n9); (try dsimp only); (try k_sweep); (try k_fold)))
local macro_rules | `(tactic| walk_at "call ref") => `(tactic| ((with_reducible show wpAny _ _ (call (Value.ref 69) _) _ _ _); k_dflt (refine' Tell.use (is_atom_tell _ _ _ _) ?k1 ?k2 ?k3 ?k4 ?k5 ?kK ?kd ?ku ?_; (case k1 => k_asm); (case k2 => k_asm); (case k3 => k_asm); (case k4 => k_asm); (case k5 => k_asm); (case kK => first | exact rfl | assumption); (case kd => ktr_room); (case ku => ktr_units)); (intro v9 n9 h9 tk9 p9 F9 N9; obtain ⟨e9, e8⟩ := p9; subst n9; subst v9); (try dsimp only); (try k_sweep); (try k_fold)))
inductive Kd where
  | atom | sign | quoted | literal | comment
  deriving DecidableEq
noncomputable def Kd.str : Kd → Str
  | .atom => Str.ofString "atom"
  | .sign => Str.ofString "sign"
  | .quoted => Str.ofString "quoted"
  | .literal => Str.ofString "literal"
  | .comment => Str.ofString "comment"
noncomputable def barQ : B := [34, 92]
noncomputable def barL : B := [91, 93, 92]
noncomputable def signsB : B := [60, 62, 64, 44, 59, 58, 46, 92]
noncomputable def shownB : Kd → B → B
  | .atom, w => w
  | .sign, w => w
  | .quoted, w => 34 :: (esc barQ w ++ [34])
  | .literal, w => 91 :: (esc barL w ++ [93])
  | .comment, w => 40 :: (esc barC w ++ [41])
noncomputable def okTk : Kd → B → Prop
  | .atom, w => w ≠ [] ∧ ∀ c ∈ w, isAtomB c = true
  | .sign, w => ∃ c, w = [c] ∧ signsB.contains c = true
  | _, w => ∀ c ∈ w, c ≠ 0 ∧ c ≠ 10 ∧ c ≠ 13
abbrev tup3 (u v w : Value) (n : Nat) : Obj := { cls := .type "tuple", data := .seq [u, v, w].toArray n }
theorem all_octets {P : UInt8 → Prop} (h : ∀ n < 256, P (UInt8.ofNat n)) (c : UInt8) : P c := by
  have := h c.toNat c.toNat_lt
  rwa [UInt8.ofNat_toNat] at this
theorem atom_facts : ∀ c : UInt8, isAtomB c = true → (c ≠ 34 ∧ c ≠ 91 ∧ c ≠ 40 ∧ c ≠ 9 ∧ c ≠ 32 ∧ c ≠ 10 ∧ c ≠ 13) ∧ signsB.contains c = false :=
  all_octets (by decide +kernel)
theorem sign_facts : ∀ c : UInt8, signsB.contains c = true → c ≠ 34 ∧ c ≠ 91 ∧ c ≠ 40 ∧ c ≠ 9 ∧ c ≠ 32 ∧ c ≠ 10 ∧ c ≠ 13 ∧ isAtomB c = false :=
  all_octets (by decide +kernel)
theorem token_tell (w : World) (news : List (Addr × Obj)) (b : B) (t : Tok) (i : Nat) (ti : Tok) (k : Kd) (wo rest : B)
    (hdr : b.drop i = shownB k wo ++ rest) (hok : okTk k wo) (hr : k = .atom → ∀ c r, rest = c :: r → isAtomB c = false) (hz : b.length ≤ 1000) (hiz : i ≤ b.length) :
    Tell w news 111 [.bytes b.toArray t, .int (i : Int) ti] 5 40 (fun v news' => ∃ q q1 n n1 t1 t2 t3 t4, v = .ref q ∧ news' = (q, tup2 (.ref q1) (.int ((i + (shownB k wo).length : Nat) : Int) t1) n) :: (q1, tup3 (.str k.str t2) (.bytes wo.toArray t3) (.int (i : Int) t4) n1) :: news) := by
  unfold Tell
  intro mean mg mb dp un gd cn cs a ccd cl' outer A₀ base h₀ L m s Q E Bw F X N T hk hd hu hret
  refine wpAny_call ?_
  k_dflt cell_enter
  have q34 : (34 : UInt8) ≠ 91 := by decide
  cases k with
  | quoted =>
    have hd0 : b.drop i = 34 :: (esc barQ wo ++ 34 :: rest) := by rw [hdr]; simp [shownB]
    have hd1 := drop_next hd0
    have hl0 := drop_len hd0
    have hw : ∀ c ∈ wo, c ≠ 0 ∧ c ≠ 10 ∧ c ≠ 13 := hok
    have hb : ∀ c, ([] : B).contains c = true → barQ.contains c = true := by intro c h; cases h
    k_steps
    have hle : i + (shownB .quoted wo).length = i + 1 + (esc barQ wo).length + 1 := by simp [shownB]; omega
    exact fin_ret hret (_ :: _ :: news) (by assumption) (by assumption) news_skip23 ⟨_, _, _, _, _, _, _, _, rfl, by rw [hle]; rfl⟩
  | literal =>
    have hd0 : b.drop i = 91 :: (esc barL wo ++ 93 :: rest) := by rw [hdr]; simp [shownB]
    have hd1 := drop_next hd0
    have hl0 := drop_len hd0
    have hw : ∀ c ∈ wo, c ≠ 0 ∧ c ≠ 10 ∧ c ≠ 13 := hok
    have hb : ∀ c, ([91] : B).contains c = true → barL.contains c = true := by
      intro c h
      have e : c = 91 := by simpa using h
      rw [e]; rfl
    have q91 : (91 : UInt8) ≠ 34 := by decide
    k_steps
    have hle : i + (shownB .literal wo).length = i + 1 + (esc barL wo).length + 1 := by simp [shownB]; omega
    exact fin_ret hret (_ :: _ :: news) (by assumption) (by assumption) news_skip23 ⟨_, _, _, _, _, _, _, _, rfl, by rw [hle]; rfl⟩
  | comment =>
    have hd0 : b.drop i = 40 :: (esc barC wo ++ 41 :: rest) := by rw [hdr]; simp [shownB]
    have hd1 := drop_next hd0
    have hl0 := drop_len hd0
    have hw : ∀ c ∈ wo, c ≠ 0 ∧ c ≠ 10 ∧ c ≠ 13 := hok
    have q1 : (40 : UInt8) ≠ 34 := by decide
    have q2 : (40 : UInt8) ≠ 91 := by decide
    k_steps
    have hle : i + (shownB .comment wo).length = i + 1 + (esc barC wo).length + 1 := by simp [shownB]; omega
    exact fin_ret hret (_ :: _ :: news) (by assumption) (by assumption) news_skip23 ⟨_, _, _, _, _, _, _, _, rfl, by rw [hle]; rfl⟩
  | sign =>
    obtain ⟨c, rfl, hc⟩ := hok
    have hd0 : b.drop i = c :: rest := hdr
    have hl0 := drop_len hd0
    obtain ⟨c34, c91, c40, _⟩ := sign_facts c hc
    have hc' : ([60, 62, 64, 44, 59, 58, 46, 92] : B).contains c = true := hc
    k_steps
    exact fin_ret hret (_ :: _ :: news) (by assumption) (by assumption) (fun _ h => h) ⟨_, _, _, _, _, _, _, _, rfl, rfl⟩
  | atom =>
    obtain ⟨hne, hat⟩ := hok
    have hr' := hr rfl
    have hd1 : b.drop i = wo ++ rest := hdr
    rcases wo with _ | ⟨c, wo⟩
    · exact absurd rfl hne
    have hd0 : b.drop i = c :: (wo ++ rest) := hdr
    have hl0 := drop_len hd0
    have hca := hat c (.head _)
    obtain ⟨⟨c34, c91, c40, _⟩, hcs⟩ := atom_facts c hca
    have hc' : ([60, 62, 64, 44, 59, 58, 46, 92] : B).contains c = false := hcs
    k_steps
    exact fin_ret hret (_ :: _ :: news) (by assumption) (by assumption) news_skip23 ⟨_, _, _, _, _, _, _, _, rfl, rfl⟩
end
theorem fresh_F7 : ite True True True := by
  try (walk1; fail)
  w_top off
  exact trivial
section
abbrev PTk := Kd × B
noncomputable def gap (pv : Option Kd) (k : Kd) : B := if pv = some .atom ∧ k = .atom then [32] else []
noncomputable def lay : Option Kd → List PTk → B
  | _, [] => []
  | pv, (k, w) :: r => gap pv k ++ (shownB k w ++ lay (some k) r)
noncomputable def offs : Option Kd → Nat → List PTk → List (Kd × B × Nat)
  | _, _, [] => []
  | pv, i, (k, w) :: r => (k, w, i + (gap pv k).length) :: offs (some k) (i + (gap pv k).length + (shownB k w).length) r
noncomputable def gapOf (pv : Option Kd) : List PTk → B
  | [] => []
  | (k, _) :: _ => gap pv k
noncomputable def bodyOf : List PTk → B
  | [] => []
  | (k, w) :: r => shownB k w ++ lay (some k) r
noncomputable def okAll (ts : List PTk) : Prop := ∀ p ∈ ts, okTk p.1 p.2
theorem lay_eq (pv : Option Kd) (ts : List PTk) : lay pv ts = gapOf pv ts ++ bodyOf ts := by
  cases ts with
  | nil => rfl
  | cons p r => rfl
theorem gap_cases (pv : Option Kd) (ts : List PTk) : gapOf pv ts = [] ∨ gapOf pv ts = [32] := by
  cases ts with
  | nil => exact .inl rfl
  | cons p r =>
    show gap pv p.1 = [] ∨ gap pv p.1 = [32]
    unfold gap
    split
    · exact .inr rfl
    · exact .inl rfl
theorem shown_head {k : Kd} {w : B} (h : okTk k w) : ∃ c r, shownB k w = c :: r ∧ ¬ spaceB c ∧ (k ≠ .atom → isAtomB c = false) := by
  cases k with
  | atom =>
    obtain ⟨h1, h2⟩ := h
    cases w with
    | nil => exact absurd rfl h1
    | cons c w =>
      have f := atom_facts c (h2 c (.head _))
      refine ⟨c, w, rfl, ?_, fun e => absurd rfl e⟩
      rintro (e | e | e | e)
      · exact f.1.2.2.2.1 e
      · exact f.1.2.2.2.2.1 e
      · exact f.1.2.2.2.2.2.1 e
      · exact f.1.2.2.2.2.2.2 e
  | sign =>
    obtain ⟨c, rfl, hc⟩ := h
    have f := sign_facts c hc
    refine ⟨c, [], rfl, ?_, fun _ => f.2.2.2.2.2.2.2⟩
    rintro (e | e | e | e)
    · exact f.2.2.2.1 e
    · exact f.2.2.2.2.1 e
    · exact f.2.2.2.2.2.1 e
    · exact f.2.2.2.2.2.2.1 e
  | quoted => exact ⟨34, _, rfl, by unfold spaceB; decide, fun _ => by decide⟩
  | literal => exact ⟨91, _, rfl, by unfold spaceB; decide, fun _ => by decide⟩
  | comment => exact ⟨40, _, rfl, by unfold spaceB; decide, fun _ => by decide⟩
theorem body_head {ts : List PTk} (h : okAll ts) : ∀ c r, bodyOf ts = c :: r → ¬ spaceB c := by
  intro c r e
  cases ts with
  | nil => cases e
  | cons p ts =>
    obtain ⟨c', r', e', hs, _⟩ := shown_head (h p (.head _))
    have e2 : bodyOf (p :: ts) = shownB p.1 p.2 ++ lay (some p.1) ts := rfl
    rw [e2, e'] at e
    injection e with e3
    rw [← e3]
    exact hs
theorem atom_head {ts : List PTk} (h : okAll ts) : ∀ c r, lay (some .atom) ts = c :: r → isAtomB c = false := by
  intro c r e
  cases ts with
  | nil => cases e
  | cons p ts =>
    obtain ⟨c', r', e', hs, hna⟩ := shown_head (h p (.head _))
    have e2 : lay (some .atom) (p :: ts) = gap (some .atom) p.1 ++ (shownB p.1 p.2 ++ lay (some p.1) ts) := rfl
    rw [e2] at e
    by_cases hk : p.1 = .atom
    · rw [hk] at e
      have e3 : gap (some .atom) .atom = [32] := rfl
      rw [e3] at e
      injection e with e4
      rw [← e4]
      decide
    · have e3 : gap (some .atom) p.1 = [] := by
        unfold gap
        rw [if_neg fun x => hk x.2]
      rw [e3, e'] at e
      injection e with e4
      rw [← e4]
      exact hna hk
noncomputable def tokD (x : Kd × B × Nat) : Dat := .tuple [.str x.1.str, .bytes x.2.1.toArray, .int (x.2.2 : Int)]
theorem tok_in {q : Addr} {x : Kd × B × Nat} {n : Nat} {t2 t3 t4 : Tok} {L : List (Addr × Obj)} (h : (q, tup3 (.str x.1.str t2) (.bytes x.2.1.toArray t3) (.int (x.2.2 : Int) t4) n) ∈ L) : DatIn L (.ref q) (tokD x) :=
  .tuple h (.cons (.str _ _) (.cons (.bytes _ _) (.cons (.int _ _) .nil)))
theorem news_apart {h₀ h : Heap} {L : Addr} {nx : List (Addr × Obj)} {a b : Addr} {oa ob : Obj} (N : News h₀ L h nx) (ha : (a, oa) ∈ nx) (hb : (b, ob) ∈ nx) (hc : oa.cls ≠ ob.cls) : a ≠ b := fun e => by
  have h1 := (N _ ha).1
  have h2 := (N _ hb).1
  simp only at h1 h2
  rw [e, h2] at h1
  exact hc (congrArg Obj.cls (Option.some.inj h1)).symm
local macro_rules | `(tactic| walk_at "call ref") => `(tactic| ((with_reducible show wpAny _ _ (call (Value.ref 111) _) _ _ _); k_dflt (refine' Tell.use (token_tell _ _ _ _ _ _ _ _ _ (by assumption) (by assumption) (by assumption) (by assumption) (by assumption)) ?k1 ?k2 ?k3 ?k4 ?k5 ?kK ?kd ?ku ?_; (case k1 => k_asm); (case k2 => k_asm); (case k3 => k_asm); (case k4 => k_asm); (case k5 => k_asm); (case kK => first | exact rfl | assumption); (case kd => ktr_room); (case ku => ktr_units)); (intro v9 n9 h9 tk9 p9 F9 N9; obtain ⟨q9, q8, m9, m8, t9, u9, t8, u8, e9, e8⟩ := p9; subst v9; subst n9); (try dsimp only); (try k_sweep); (try k_fold)))
local macro_rules | `(tactic| walk_at "call ref") => `(tactic| ((with_reducible show wpAny _ _ (call (Value.ref 118) _) _ _ _); k_dflt (refine' Tell.use (white_tell _ _ _ _ _ _ _ _ (by assumption) (by assumption) (by assumption) (by assumption) (by assumption)) ?k1 ?k2 ?k3 ?k4 ?k5 ?kK ?kd ?ku ?_; (case k1 => k_asm); (case k2 => k_asm); (case k3 => k_asm); (case k4 => k_asm); (case k5 => k_asm); (case kK => first | exact rfl | assumption); (case kd => ktr_room); (case ku => ktr_units)); (intro v9 n9 h9 tk9 p9 F9 N9; obtain ⟨e9, t9, e8⟩ := p9; subst n9; subst v9); (try dsimp only); (try k_sweep); (try k_fold)))
local macro_rules | `(tactic| walk_at "call builtin:list.append") => `(tactic| with_reducible refine stop ?_)
theorem offs_length : ∀ (ts : List PTk) (pv : Option Kd) (i : Nat), (offs pv i ts).length = ts.length
  | [], _, _ => rfl
  | (k, w) :: r, pv, i => by
    show (offs _ _ r).length + 1 = r.length + 1
    rw [offs_length r]
theorem drop_past {b x y : B} {i : Nat} (h : b.drop i = x ++ y) : b.drop (i + x.length) = y := by
  rw [← List.drop_drop, h, List.drop_left]
theorem drop_le {b x y : B} {i : Nat} (h : b.drop i = x ++ y) (hi : i ≤ b.length) : i + x.length ≤ b.length := by
  have := congrArg List.length h
  simp only [List.length_drop, List.length_append] at this
  omega
theorem tokens_tell (w : World) (news : List (Addr × Obj)) (t : Tok) (plan : List PTk) (hok : okAll plan) (hz : (lay none plan).length ≤ 1000) (hpl : plan.length ≤ 1000) :
    Tell w news 125 [.bytes (lay none plan).toArray t] 7 64 (fun v news' => ∃ l vs c tl, v = .ref l ∧ news' = (l, listOf vs.toArray c) :: (tl ++ news) ∧ DatAll tl vs ((offs none 0 plan).map tokD)) := by
  unfold Tell
  intro mean mg mb dp un gd cn cs a ccd cl' outer A₀ base h₀ L m s Q E Bw F X N T hk hd hu hret
  refine wpAny_call ?_
  k_dflt cell_enter
  generalize hb : lay none plan = b at *
  have hd0 : b.drop 0 = gapOf none plan ++ bodyOf plan := by rw [List.drop_zero, ← hb, lay_eq]
  have hs0 := gap_cases none plan
  have hr0 := body_head hok
  have hi0 : 0 ≤ b.length := Nat.zero_le _
  k_steps
  rename_i l h2 l1 h3 tk1 h4 tk2 t2 h5 F1 N1
  refine unstop ?_
  refine While_inv (fun n mm nx => ∃ (ds : List (Kd × B × Nat)) (suf : List PTk) (pv : Option Kd) (j i : Nat) (ti : Tok) (vs : List Value) (c : Nat) (tl : List (Addr × Obj)), n = suf.length ∧ offs none 0 plan = ds ++ offs pv j suf ∧ okAll suf ∧ i = j + (gapOf pv suf).length ∧ b.drop i = bodyOf suf ∧ i ≤ b.length ∧
    nx = (l, listOf vs.toArray c) :: (tl ++ news) ∧ DatAll tl vs (ds.map tokD) ∧ (∀ p ∈ tl ++ news, p.1 ≠ l) ∧ AllAt mm [(Str.ofString "octets", .bytes b.toArray t), (Str.ofString "found", .ref l), (Str.ofString "at", .int (i : Int) ti)])
    F1 N1 ⟨[], plan, none, 0, _, _, [], 0, [], rfl, rfl, hok, rfl, drop_past hd0, drop_le hd0 hi0, rfl, .nil, fun p hp => Nat.ne_of_lt (l1 p hp), rfl, rfl, rfl, trivial⟩ ?_
  rintro n m₁ nx h₁ tk₁ F₁ N₁ ⟨ds, suf, pv, j, i, ti, vs, c, tl, hn, hds, hoks, hi, hdi, hib, hnx, hall, hne, hm⟩
  subst nx
  have F₂ := ats F₁ hm
  clear F₁ F1 N1
  rcases suf with _ | ⟨⟨k, wo⟩, suf⟩
  · have hl0 : i = b.length := by
      have := congrArg List.length hdi
      simp only [List.length_drop, bodyOf, List.length_nil] at this
      omega
    k_steps
    exact fin_ret hret _ (by assumption) (by assumption) (fun _ h => h) ⟨l, vs, c, tl, rfl, rfl, by rw [hds]; simpa [offs] using hall⟩
  · have hok1 : okTk k wo := hoks (k, wo) (.head _)
    have hok2 : okAll suf := fun p hp => hoks p (.tail _ hp)
    have hd1 : b.drop i = shownB k wo ++ lay (some k) suf := hdi
    have hr1 : k = .atom → ∀ c r, lay (some k) suf = c :: r → isAtomB c = false := by
      intro e
      rw [e]
      exact atom_head hok2
    have hl0 : i < b.length := by
      obtain ⟨c', r', e', _, _⟩ := shown_head hok1
      rw [e'] at hd1
      have := drop_len (r := r' ++ lay (some k) suf) (c := c') hd1
      omega
    have hw1 : b.drop (i + (shownB k wo).length) = gapOf (some k) suf ++ bodyOf suf := by rw [drop_past hd1, lay_eq]
    have hw2 := gap_cases (some k) suf
    have hw3 := body_head hok2
    have hw4 := drop_le hd1 hib
    k_steps
    (with_reducible rename Fr _ _ _ _ => F3)
    (with_reducible rename News _ _ _ _ => N3)
    rename_i q9 q8 m9 m8 t9 u9 t8 u8 ha hb' hc
    refine unstop ?_
    have hq8 : q8 ≠ l := news_apart N3 (.tail _ (.head _)) (.tail _ (.tail _ (.head _))) (fun e => by injection e with e; revert e; decide)
    have hvl : vs.length ≤ 1000 := by
      have h1 := hall.length
      have h2 := congrArg List.length hds
      rw [List.length_append, offs_length, offs_length] at h2
      rw [List.length_map] at h1
      omega
    refine my_append_ne (rest := (q8, _) :: (tl ++ news)) F3 N3 (.tail _ (.tail _ (.head _))) (List.forall_mem_cons.mpr ⟨hq8, hne⟩) (List.forall_mem_cons.mpr ⟨.tail _ (.head _), fun p hp => .tail _ (.tail _ (.tail _ hp))⟩) (by rw [List.size_toArray]; omega) (fun h' F' N' => ?_)
    clear F3 N3
    k_steps
    exact WhileStep.intro (by assumption) (by assumption) (by rw [hn]; exact Nat.lt_succ_self _) ⟨ds ++ [(k, wo, i)], suf, some k, i + (shownB k wo).length, _, _, vs ++ [.ref q8], _, (q8, _) :: tl, rfl, by rw [hds, hi]; simp [offs, gapOf], hok2, rfl, drop_past hw1, drop_le hw1 hw4, by rw [List.push_toArray]; rfl,
      by rw [List.map_append]; exact DatAll.append (hall.mono fun p hp => .tail _ hp) (.one (tok_in (x := (k, wo, i)) (.head _))), List.forall_mem_cons.mpr ⟨hq8, hne⟩, rfl, rfl, rfl, trivial⟩
end
theorem fresh_F8 : ite True True True := by
  try (walk1; fail)
  w_top off
  exact trivial
section
theorem drop_cons {b : B} {i : Nat} (h : i < b.length) : ∃ c r, b.drop i = c :: r ∧ c ∈ b ∧ b.take (i + 1) = b.take i ++ [c] := by
  refine ⟨b[i], b.drop (i + 1), List.drop_eq_getElem_cons h, List.getElem_mem h, ?_⟩
  rw [List.take_add_one, List.getElem?_eq_getElem h]
  rfl
theorem esc_one (bar : B) (c : UInt8) : esc bar [c] = if bar.contains c then [92, c] else [c] := by
  simp only [esc]
theorem escaped_tell (w : World) (news : List (Addr × Obj)) (wo : B) (t : Tok) (bar : B) (tb : Tok) (hw : ∀ c ∈ wo, c ≠ 0 ∧ c ≠ 10 ∧ c ≠ 13) (hz : wo.length ≤ 1000) :
    Tell w news 139 [.bytes wo.toArray t, .bytes bar.toArray tb] 2 16 (fun v news' => news' = news ∧ ∃ t, v = .bytes (esc bar wo).toArray t) := by
  unfold Tell
  intro mean mg mb dp un gd cn cs a ccd cl' outer A₀ base h₀ L m s Q E Bw F X N T hk hd hu hret
  refine wpAny_call ?_
  k_dflt cell_enter
  k_steps
  rename_i l h2 l1 h3 F1 N1
  refine unstop ?_
  (with_unfolding_all refine' For_invVF F1 ?k1 ?k2 ?_; (case k1 => exact rfl); (case k2 => exact rfl))
  k_steps
  try clear F1 N1
  (with_reducible rename Fr _ _ _ _ => F1)
  (with_reducible rename News _ _ _ _ => N1)
  (rename IsRange _ _ _ _ _ _ _ _ => hR)
  refine unstop ?_
  refine my_range (n := wo.length) (fun i m nx => ∃ (items : List (B × Tok)) (k : Nat), (items.map (·.1)).flatten = esc bar (wo.take i) ∧ items.length ≤ 2 * i ∧ nx = (l, listOf (bvals items).toArray k) :: news ∧
    AllAt m [(Str.ofString "octets", .bytes wo.toArray t), (Str.ofString "signs", .bytes bar.toArray tb), (Str.ofString "parts", .ref l)])
    rfl hR rfl (by omega) F1 N1 ⟨[], 0, by simp [esc], Nat.le_refl _, rfl, rfl, rfl, rfl, trivial⟩ ?_ ?_
  · rintro i ti m₁ nx h₁ tk₁ own hi hoff ⟨items, k, hfl, hil, hnx, hm⟩ F₁ N₁
    subst nx
    obtain ⟨c, r, hd0, hcm, htk⟩ := drop_cons hi
    obtain ⟨c0, c10, c13⟩ := hw c hcm
    have n0 : (c.toNat : Int) ≠ 0 := toNat_ne c0
    have n10 : (c.toNat : Int) ≠ 10 := toNat_ne c10
    have n13 : (c.toNat : Int) ≠ 13 := toNat_ne c13
    have hsz0 : (bvals items).toArray.size ≤ 16777216 := by rw [bvals_size]; omega
    have hsz1 : ((bvals items).toArray.push (.bytes [92].toArray 0)).size ≤ 16777216 := by rw [Array.size_push, bvals_size]; omega
    have hne : ∀ p ∈ news ++ own, p.1 ≠ l := fun p hp => by
      rcases List.mem_append.mp hp with hp | hp
      · exact Nat.ne_of_lt (l1 p hp)
      · exact hoff p hp l (.head _)
    have hlen : (esc bar (wo.take (i + 1))) = esc bar (wo.take i) ++ esc bar [c] := by rw [htk, esc_append]
    have F₂ := ats F₁ (ps := [(Str.ofString "at", .int (i : Int) ti), (Str.ofString "octets", .bytes wo.toArray t), (Str.ofString "signs", .bytes bar.toArray tb), (Str.ofString "parts", .ref l)]) ⟨rfl, hm.1, hm.2.1, hm.2.2.1, trivial⟩
    have N₂ : News _ _ h₁ ((l, listOf (bvals items).toArray k) :: (news ++ own)) := N₁
    clear F₁ N₁ F1 N1
    rw [esc_one] at hlen
    by_cases hc : bar.contains c = true
    · rw [if_pos hc] at hlen
      k_steps
      (with_reducible rename Fr _ _ _ _ => F3)
      (with_reducible rename News _ _ _ _ => N3)
      exact InvEndG.intro (nx := (l, _) :: news) F3 N3 ⟨(items ++ [([92], _)]) ++ [([c], _)], _, by rw [hlen]; simp [hfl], by simp only [List.length_append, List.length_cons, List.length_nil]; omega, by rw [bvals_snoc, bvals_snoc], rfl, rfl, rfl, trivial⟩ (by exact hoff) (List.forall_mem_cons.mpr ⟨.head _, fun p hp => .tail _ (List.mem_append_left _ hp)⟩) (fun p hp => .tail _ (List.mem_append_right _ hp))
    · rw [if_neg hc] at hlen
      have hc' : bar.contains c = false := by simpa using hc
      k_steps
      (with_reducible rename Fr _ _ _ _ => F3)
      (with_reducible rename News _ _ _ _ => N3)
      exact InvEndG.intro (nx := (l, _) :: news) F3 N3 ⟨items ++ [([c], _)], _, by rw [hlen]; simp [hfl], by simp only [List.length_append, List.length_cons, List.length_nil]; omega, by rw [bvals_snoc], rfl, rfl, rfl, trivial⟩ (by exact hoff) (List.forall_mem_cons.mpr ⟨.head _, fun p hp => .tail _ (List.mem_append_left _ hp)⟩) (fun p hp => .tail _ (List.mem_append_right _ hp))
  · rintro m₁ nx h₁ tk₁ ⟨items, k, hfl, hil, hnx, hm⟩ F₁ N₁
    subst nx
    have F₂ := ats F₁ hm
    clear F₁ F1 N1
    rw [List.take_length] at hfl
    have hj : jn [] (items.map (·.1)) = esc bar wo := by rw [jn_flat, hfl]
    have hzz : (esc bar wo).length ≤ 2000 := by
      have h8 : ∀ z : B, (esc bar z).length ≤ 2 * z.length := by
        intro z
        induction z with
        | nil => exact Nat.le_refl _
        | cons x z ih => simp only [esc]; split <;> simp only [List.length_cons] <;> omega
      have := h8 wo
      omega
    k_steps
    exact fin_ret hret news (by assumption) (by assumption) (fun _ h => .tail _ h) ⟨rfl, _, rfl⟩
end
theorem fresh_F9 : ite True True True := by
  try (walk1; fail)
  w_top off
  exact trivial
section
local macro_rules | `(tactic| walk_at "call ref") => `(tactic| ((with_reducible show wpAny _ _ (call (Value.ref 139) _) _ _ _); k_dflt (refine' Tell.use (escaped_tell _ _ _ _ _ _ (by assumption) (by assumption)) ?k1 ?k2 ?k3 ?k4 ?k5 ?kK ?kd ?ku ?_; (case k1 => k_asm); (case k2 => k_asm); (case k3 => k_asm); (case k4 => k_asm); (case k5 => k_asm); (case kK => first | exact rfl | assumption); (case kd => ktr_room); (case ku => ktr_units)); (intro v9 n9 h9 tk9 p9 F9 N9; obtain ⟨e9, t9, e8⟩ := p9; subst n9; subst v9); (try dsimp only); (try k_sweep); (try k_fold)))
theorem esc_le (bar z : B) : (esc bar z).length ≤ 2 * z.length := by
  induction z with
  | nil => exact Nat.le_refl _
  | cons x z ih => simp only [esc]; split <;> simp only [List.length_cons] <;> omega
theorem quoted_tell (w : World) (news : List (Addr × Obj)) (wo : B) (t : Tok) (hw : ∀ c ∈ wo, c ≠ 0 ∧ c ≠ 10 ∧ c ≠ 13) (hz : wo.length ≤ 1000) :
    Tell w news 146 [.bytes wo.toArray t] 3 24 (fun v news' => news' = news ∧ ∃ t, v = .bytes (34 :: (esc barQ wo ++ [34])).toArray t) := by
  have he := esc_le barQ wo
  have he' : (esc [34, 92] wo).length ≤ 2 * wo.length := he
  unfold Tell
  intro mean mg mb dp un gd cn cs a ccd cl' outer A₀ base h₀ L m s Q E Bw F X N T hk hd hu hret
  refine wpAny_call ?_
  k_dflt cell_enter
  k_steps
  exact fin_ret hret news (by assumption) (by assumption) (fun _ h => h) ⟨rfl, _, rfl⟩
local macro_rules | `(tactic| walk_at "call ref") => `(tactic| ((with_reducible show wpAny _ _ (call (Value.ref 146) _) _ _ _); k_dflt (refine' Tell.use (quoted_tell _ _ _ _ (by assumption) (by assumption)) ?k1 ?k2 ?k3 ?k4 ?k5 ?kK ?kd ?ku ?_; (case k1 => k_asm); (case k2 => k_asm); (case k3 => k_asm); (case k4 => k_asm); (case k5 => k_asm); (case kK => first | exact rfl | assumption); (case kd => ktr_room); (case ku => ktr_units)); (intro v9 n9 h9 tk9 p9 F9 N9; obtain ⟨e9, t9, e8⟩ := p9; subst n9; subst v9); (try dsimp only); (try k_sweep); (try k_fold)))
theorem show_token_tell (w : World) (news : List (Addr × Obj)) (q : Addr) (k : Kd) (wo : B) (j : Int) (n : Nat) (t2 t3 t4 : Tok) (hm : (q, tup3 (.str k.str t2) (.bytes wo.toArray t3) (.int j t4) n) ∈ news) (hok : okTk k wo) (hz : wo.length ≤ 1000) :
    Tell w news 153 [.ref q] 4 32 (fun v news' => news' = news ∧ ∃ t, v = .bytes (shownB k wo).toArray t) := by
  have heQ : (esc [34, 92] wo).length ≤ 2 * wo.length := esc_le _ wo
  have heL : (esc [91, 93, 92] wo).length ≤ 2 * wo.length := esc_le _ wo
  have heC : (esc [40, 41, 92] wo).length ≤ 2 * wo.length := esc_le _ wo
  unfold Tell
  intro mean mg mb dp un gd cn cs a ccd cl' outer A₀ base h₀ L m s Q E Bw F X N T hk hd hu hret
  refine wpAny_call ?_
  k_dflt cell_enter
  cases k with
  | quoted =>
    have hw : ∀ c ∈ wo, c ≠ 0 ∧ c ≠ 10 ∧ c ≠ 13 := hok
    k_steps
    exact fin_ret hret news (by assumption) (by assumption) (fun _ h => .tail _ h) ⟨rfl, _, rfl⟩
  | literal =>
    have hw : ∀ c ∈ wo, c ≠ 0 ∧ c ≠ 10 ∧ c ≠ 13 := hok
    k_steps
    exact fin_ret hret news (by assumption) (by assumption) (fun _ h => .tail _ h) ⟨rfl, _, rfl⟩
  | comment =>
    have hw : ∀ c ∈ wo, c ≠ 0 ∧ c ≠ 10 ∧ c ≠ 13 := hok
    k_steps
    exact fin_ret hret news (by assumption) (by assumption) (fun _ h => .tail _ h) ⟨rfl, _, rfl⟩
  | sign =>
    k_steps
    exact fin_ret hret news (by assumption) (by assumption) (fun _ h => .tail _ h) ⟨rfl, _, rfl⟩
  | atom =>
    k_steps
    exact fin_ret hret news (by assumption) (by assumption) (fun _ h => .tail _ h) ⟨rfl, _, rfl⟩
end
theorem fresh_G1 : ite True True True := by
  try (walk1; fail)
  w_top off
  exact trivial
section
local macro_rules | `(tactic| walk_at "call ref") => `(tactic| ((with_reducible show wpAny _ _ (call (Value.ref 153) _) _ _ _); k_dflt (refine' Tell.use (show_token_tell _ _ _ _ _ _ _ _ _ _ ?kM ?kA ?kB) ?k1 ?k2 ?k3 ?k4 ?k5 ?kK ?kd ?ku ?_; (case k1 => k_asm); (case k2 => k_asm); (case k3 => k_asm); (case k4 => k_asm); (case k5 => k_asm); (case kM => k_mem); (case kA => assumption); (case kB => assumption); (case kK => first | exact rfl | assumption); (case kd => ktr_room); (case ku => ktr_units)); (intro v9 n9 h9 tk9 p9 F9 N9; obtain ⟨e9, t9, e8⟩ := p9; subst n9; subst v9); (try dsimp only); (try k_sweep); (try k_fold)))
section
variable {prog : Program} {w : World} {A : Around} {Q E : Value → Shared → Prop} {s : Shared} {u : Nat} {L : Addr} {h₀ : Heap} {news : List (Addr × Obj)} {value slice : Expr}
theorem my_litem1 {l : Addr} {vs : List Value} {i n : Nat} {v : Value} (N : News h₀ L s.heap news) (hm : (l, listOf vs.toArray n) ∈ news) (hx : vs[i]? = some v) (hi : i ≤ 1000000) (h : Q v s)
    (hs : subscripted slice false (.ref l) (.int (((i + 1 : Nat) : Int) - 1) u) = operate [.ref l, .int (((i + 1 : Nat) : Int) - 1) u] (getItem (.ref l) (.int (((i + 1 : Nat) : Int) - 1) u)) := by with_unfolding_all rfl) : wpAny (model prog w) A (subscriptTail value slice (.ref l) (.int (((i + 1 : Nat) : Int) - 1) u)) Q E s := by
  have e : (((i + 1 : Nat) : Int) - 1) = (i : Int) := by omega
  rw [e] at hs ⊢
  exact my_litem N hm rfl hx hi h hs
end
local macro_rules | `(tactic| walk_at "subscriptTail") => `(tactic| (k_here; (with_reducible show wpAny _ _ (subscriptTail _ _ (Value.ref _) (Value.int (Nat.cast (_ + 1) - 1) _)) _ _ _); k_dflt (refine' my_litem1 ?k1 ?k2 ?k4 ?k5 ?_; (case k1 => k_asm); (case k4 => assumption); (case k2 => k_mem); (case k5 => omega))))
noncomputable def strip (x : Kd × B × Nat) : PTk := (x.1, x.2.1)
noncomputable def lastOr : Option Kd → List PTk → Option Kd
  | pv, [] => pv
  | _, x :: r => lastOr (some x.1) r
theorem lay_snoc : ∀ (a : List PTk) (pv : Option Kd) (x : PTk), lay pv (a ++ [x]) = lay pv a ++ (gap (lastOr pv a) x.1 ++ shownB x.1 x.2)
  | [], pv, x => by show gap pv x.1 ++ (shownB x.1 x.2 ++ []) = _; rw [List.append_nil]; rfl
  | y :: r, pv, x => by
    show gap pv y.1 ++ (shownB y.1 y.2 ++ lay (some y.1) (r ++ [x])) = (gap pv y.1 ++ (shownB y.1 y.2 ++ lay (some y.1) r)) ++ _
    rw [lay_snoc r]
    simp only [List.append_assoc]
    rfl
theorem lastOr_snoc : ∀ (a : List PTk) (pv : Option Kd) (x : PTk), lastOr pv (a ++ [x]) = some x.1
  | [], _, _ => rfl
  | y :: r, _, x => lastOr_snoc r (some y.1) x
theorem tok_out {L : List (Addr × Obj)} {v : Value} {x : Kd × B × Nat} (h : DatIn L v (tokD x)) : ∃ q n t2 t3 t4, v = .ref q ∧ (q, tup3 (.str x.1.str t2) (.bytes x.2.1.toArray t3) (.int (x.2.2 : Int) t4) n) ∈ L := by
  unfold tokD at h
  cases h with
  | tuple hm hall =>
    cases hall with
    | cons h1 r1 =>
      cases r1 with
      | cons h2 r2 =>
        cases r2 with
        | cons h3 r3 =>
          cases r3
          cases h1
          cases h2
          cases h3
          exact ⟨_, _, _, _, _, rfl, hm⟩
theorem tok_at {L : List (Addr × Obj)} {vs : List Value} {ts : List (Kd × B × Nat)} (h : DatAll L vs (ts.map tokD)) {i : Nat} (hi : i < ts.length) :
    ∃ q n t2 t3 t4, vs[i]? = some (.ref q) ∧ (q, tup3 (.str (ts[i]).1.str t2) (.bytes (ts[i]).2.1.toArray t3) (.int ((ts[i]).2.2 : Int) t4) n) ∈ L := by
  obtain ⟨v, hv, hd⟩ := h.get (k := i) (by simpa using hi)
  rw [List.getElem_map] at hd
  obtain ⟨q, n, t2, t3, t4, rfl, hm⟩ := tok_out hd
  exact ⟨q, n, t2, t3, t4, hv, hm⟩
theorem not_atom_str : ∀ k : Kd, k ≠ .atom → (k.str == Str.ofString "atom") = false := by
  intro k h
  cases k with
  | atom => exact absurd rfl h
  | sign => decide
  | quoted => decide
  | literal => decide
  | comment => decide
theorem shown_le (k : Kd) (wo : B) : (shownB k wo).length ≤ 2 * wo.length + 2 := by
  cases k with
  | atom => simp only [shownB]; omega
  | sign => simp only [shownB]; omega
  | quoted => have := esc_le barQ wo; simp only [shownB, List.length_cons, List.length_append, List.length_nil]; omega
  | literal => have := esc_le barL wo; simp only [shownB, List.length_cons, List.length_append, List.length_nil]; omega
  | comment => have := esc_le barC wo; simp only [shownB, List.length_cons, List.length_append, List.length_nil]; omega
theorem show_tokens_tell (w : World) (news : List (Addr × Obj)) (lt : Addr) (vs : List Value) (c : Nat) (ts : List (Kd × B × Nat)) (hm : (lt, listOf vs.toArray c) ∈ news) (hall : DatAll news vs (ts.map tokD)) (hok : okAll (ts.map strip)) (hzs : ∀ x ∈ ts, x.2.1.length ≤ 1000) (hz : ts.length ≤ 1000) (hlz : (lay none (ts.map strip)).length ≤ 1000000) :
    Tell w news 160 [.ref lt] 6 48 (fun v news' => news' = news ∧ ∃ t, v = .bytes (lay none (ts.map strip)).toArray t) := by
  have hvl : vs.length = ts.length := by rw [hall.length, List.length_map]
  unfold Tell
  intro mean mg mb dp un gd cn cs a ccd cl' outer A₀ base h₀ L m s Q E Bw F X N T hk hd hu hret
  refine wpAny_call ?_
  k_dflt cell_enter
  k_steps
  rename_i l h2 l1 h3 F1 N1
  refine unstop ?_
  (with_unfolding_all refine' For_invVF F1 ?k1 ?k2 ?_; (case k1 => exact rfl); (case k2 => exact rfl))
  k_steps
  try clear F1 N1
  (with_reducible rename Fr _ _ _ _ => F1)
  (with_reducible rename News _ _ _ _ => N1)
  (rename IsRange _ _ _ _ _ _ _ _ => hR)
  refine unstop ?_
  refine my_range (n := vs.length) (fun i m nx => ∃ (items : List (B × Tok)) (k : Nat), (items.map (·.1)).flatten = lay none ((ts.take i).map strip) ∧ items.length ≤ 2 * i ∧ nx = (l, listOf (bvals items).toArray k) :: news ∧
    AllAt m [(Str.ofString "tokens", .ref lt), (Str.ofString "parts", .ref l)])
    rfl hR (by simp) (by omega) F1 N1 ⟨[], 0, rfl, Nat.le_refl _, rfl, rfl, rfl, trivial⟩ ?_ ?_
  · rintro i ti m₁ nx h₁ tk₁ own hi hoff ⟨items, k, hfl, hil, hnx, hm'⟩ F₁ N₁
    subst nx
    rw [hvl] at hi
    obtain ⟨q, n1, t2, t3, t4, hq, hqm⟩ := tok_at hall hi
    have hok1 : okTk (ts[i]).1 (ts[i]).2.1 := hok _ (List.mem_map.mpr ⟨ts[i], List.getElem_mem hi, rfl⟩)
    have hz1 := hzs _ (List.getElem_mem hi)
    have hsh := shown_le (ts[i]).1 (ts[i]).2.1
    have htake : (ts.take (i + 1)).map strip = (ts.take i).map strip ++ [strip ts[i]] := by
      rw [List.take_add_one, List.getElem?_eq_getElem hi, List.map_append]
      rfl
    have hlay : lay none ((ts.take (i + 1)).map strip) = lay none ((ts.take i).map strip) ++ (gap (lastOr none ((ts.take i).map strip)) (ts[i]).1 ++ shownB (ts[i]).1 (ts[i]).2.1) := by
      rw [htake, lay_snoc]
      rfl
    have hsz0 : (bvals items).toArray.size ≤ 16777216 := by rw [bvals_size]; omega
    have hsz1 : ((bvals items).toArray.push (.bytes [32].toArray 0)).size ≤ 16777216 := by rw [Array.size_push, bvals_size]; omega
    have hne : ∀ p ∈ news ++ own, p.1 ≠ l := fun p hp => by
      rcases List.mem_append.mp hp with hp | hp
      · exact Nat.ne_of_lt (l1 p hp)
      · exact hoff p hp l (.head _)
    have F₂ := ats F₁ (ps := [(Str.ofString "spot", .int (i : Int) ti), (Str.ofString "tokens", .ref lt), (Str.ofString "parts", .ref l)]) ⟨rfl, hm'.1, hm'.2.1, trivial⟩
    have N₂ : News _ _ h₁ ((l, listOf (bvals items).toArray k) :: (news ++ own)) := N₁
    clear F₁ N₁ F1 N1
    have hmL : (lt, listOf vs.toArray c) ∈ news ++ own := List.mem_append_left _ hm
    have hqL : (q, tup3 (.str (ts[i]).1.str t2) (.bytes (ts[i]).2.1.toArray t3) (.int ((ts[i]).2.2 : Int) t4) n1) ∈ news ++ own := List.mem_append_left _ hqm
    generalize (ts[i]).1 = kd at *
    generalize (ts[i]).2.1 = wo at *
    rcases i with _ | i
    · have hg : gap (lastOr none ((ts.take 0).map strip)) kd = [] := by simp [lastOr, gap]
      rw [hg, List.nil_append] at hlay
      k_steps
      (with_reducible rename Fr _ _ _ _ => F3)
      (with_reducible rename News _ _ _ _ => N3)
      exact InvEndG.intro (nx := (l, _) :: news) F3 N3 ⟨items ++ [(shownB kd wo, _)], _, by rw [hlay]; simp [hfl], by simp only [List.length_append, List.length_cons, List.length_nil]; omega, by rw [bvals_snoc], rfl, rfl, trivial⟩ (by exact hoff) (List.forall_mem_cons.mpr ⟨.head _, fun p hp => .tail _ (List.mem_append_left _ hp)⟩) (fun p hp => .tail _ (List.mem_append_right _ hp))
    · have hi' : i < ts.length := by omega
      obtain ⟨q0, n0, s2, s3, s4, hq0, hqm0⟩ := tok_at hall hi'
      have hlast : lastOr none ((ts.take (i + 1)).map strip) = some (ts[i]).1 := by
        rw [List.take_add_one, List.getElem?_eq_getElem hi', List.map_append]
        exact lastOr_snoc _ _ _
      rw [hlast] at hlay
      have hqL0 : (q0, tup3 (.str (ts[i]).1.str s2) (.bytes (ts[i]).2.1.toArray s3) (.int ((ts[i]).2.2 : Int) s4) n0) ∈ news ++ own := List.mem_append_left _ hqm0
      generalize (ts[i]).1 = kd0 at *
      generalize (ts[i]).2.1 = wo0 at *
      have hatom : ((Kd.atom).str == Str.ofString "atom") = true := by decide
      by_cases hk1 : kd = .atom
      · subst hk1
        by_cases hk0 : kd0 = .atom
        · subst hk0
          k_steps
          (with_reducible rename Fr _ _ _ _ => F3)
          (with_reducible rename News _ _ _ _ => N3)
          exact InvEndG.intro (nx := (l, _) :: news) F3 N3 ⟨(items ++ [([32], _)]) ++ [(shownB .atom wo, _)], _, by rw [hlay]; simp [hfl, gap], by simp only [List.length_append, List.length_cons, List.length_nil]; omega, by rw [bvals_snoc, bvals_snoc], rfl, rfl, trivial⟩ (by exact hoff) (List.forall_mem_cons.mpr ⟨.head _, fun p hp => .tail _ (List.mem_append_left _ hp)⟩) (fun p hp => .tail _ (List.mem_append_right _ hp))
        · have hk0' := not_atom_str kd0 hk0
          have hg : gap (some kd0) .atom = [] := by unfold gap; rw [if_neg fun x => hk0 (Option.some.inj x.1)]
          rw [hg, List.nil_append] at hlay
          k_steps
          (with_reducible rename Fr _ _ _ _ => F3)
          (with_reducible rename News _ _ _ _ => N3)
          exact InvEndG.intro (nx := (l, _) :: news) F3 N3 ⟨items ++ [(shownB .atom wo, _)], _, by rw [hlay]; simp [hfl], by simp only [List.length_append, List.length_cons, List.length_nil]; omega, by rw [bvals_snoc], rfl, rfl, trivial⟩ (by exact hoff) (List.forall_mem_cons.mpr ⟨.head _, fun p hp => .tail _ (List.mem_append_left _ hp)⟩) (fun p hp => .tail _ (List.mem_append_right _ hp))
      · have hk1' := not_atom_str kd hk1
        have hg : gap (some kd0) kd = [] := by unfold gap; rw [if_neg fun x => hk1 x.2]
        rw [hg, List.nil_append] at hlay
        k_steps
        (with_reducible rename Fr _ _ _ _ => F3)
        (with_reducible rename News _ _ _ _ => N3)
        exact InvEndG.intro (nx := (l, _) :: news) F3 N3 ⟨items ++ [(shownB kd wo, _)], _, by rw [hlay]; simp [hfl], by simp only [List.length_append, List.length_cons, List.length_nil]; omega, by rw [bvals_snoc], rfl, rfl, trivial⟩ (by exact hoff) (List.forall_mem_cons.mpr ⟨.head _, fun p hp => .tail _ (List.mem_append_left _ hp)⟩) (fun p hp => .tail _ (List.mem_append_right _ hp))
  · rintro m₁ nx h₁ tk₁ ⟨items, k, hfl, hil, hnx, hm'⟩ F₁ N₁
    subst nx
    have F₂ := ats F₁ hm'
    clear F₁ F1 N1
    rw [hvl, List.take_length] at hfl
    have hj : jn [] (items.map (·.1)) = lay none (ts.map strip) := by rw [jn_flat, hfl]
    k_steps
    exact fin_ret hret news (by assumption) (by assumption) (fun _ h => .tail _ h) ⟨rfl, _, rfl⟩
end
theorem fresh_G2 : ite True True True := by
  try (walk1; fail)
  w_top off
  exact trivial
section
abbrev Gp : Type := Addr × List Value × Nat
abbrev Tk3 : Type := Kd × B × Nat
noncomputable def Gp.ref (g : Gp) : Value := .ref g.1
noncomputable def Gp.obj (g : Gp) : Addr × Obj := (g.1, listOf g.2.1.toArray g.2.2)
noncomputable def Alls (L : List (Addr × Obj)) : List Gp → List (List Tk3) → Prop
  | [], [] => True
  | g :: gs, d :: ds => DatAll L g.2.1 (d.map tokD) ∧ Alls L gs ds
  | _, _ => False
theorem Alls.snoc {L : List (Addr × Obj)} {g : Gp} {d : List Tk3} (hd : DatAll L g.2.1 (d.map tokD)) : ∀ {gs : List Gp} {ds : List (List Tk3)}, Alls L gs ds → Alls L (gs ++ [g]) (ds ++ [d])
  | [], [], _ => ⟨hd, True.intro⟩
  | _ :: _, _ :: _, h => ⟨h.1, Alls.snoc hd h.2⟩
  | [], _ :: _, h => h.elim
  | _ :: _, [], h => h.elim
noncomputable def isAt (sg : UInt8) (x : Tk3) : Bool := decide (x.1 = .sign ∧ x.2.1 = [sg])
noncomputable def splStep (sg : UInt8) (st : List (List Tk3) × List Tk3) (x : Tk3) : List (List Tk3) × List Tk3 := if isAt sg x = true then (st.1 ++ [st.2], []) else (st.1, st.2 ++ [x])
noncomputable def spl (sg : UInt8) (ts : List Tk3) : List (List Tk3) × List Tk3 := ts.foldl (splStep sg) ([], [])
noncomputable def partsOf (sg : UInt8) (ts : List Tk3) : List (List Tk3) := (spl sg ts).1 ++ [(spl sg ts).2]
theorem spl_snoc (sg : UInt8) (ts : List Tk3) (x : Tk3) : spl sg (ts ++ [x]) = splStep sg (spl sg ts) x := by
  simp [spl, List.foldl_append]
theorem not_sign_str : ∀ k : Kd, k ≠ .sign → (k.str == Str.ofString "sign") = false := by
  intro k h
  cases k with
  | sign => exact absurd rfl h
  | atom => decide
  | quoted => decide
  | literal => decide
  | comment => decide
section
variable {prog : Program} {w : World} {A : Around} {Q E : Value → Shared → Prop} {s : Shared} {u : Nat} {L : Addr} {h₀ : Heap} {news : List (Addr × Obj)} {value slice : Expr}
theorem my_llast {l : Addr} {vs : List Value} {n : Nat} {v : Value} (N : News h₀ L s.heap news) (hm : (l, listOf (vs ++ [v]).toArray n) ∈ news) (h : Q v s)
    (hs : subscripted slice false (.ref l) (.int (-1) u) = operate [.ref l, .int (-1) u] (getItem (.ref l) (.int (-1) u)) := by with_unfolding_all rfl) : wpAny (model prog w) A (subscriptTail value slice (.ref l) (.int (-1) u)) Q E s := by
  have hl : s.heap.IsList l (vs ++ [v]).toArray := ⟨_, (N _ hm).1, rfl, n, rfl⟩
  have hz : (vs ++ [v]).toArray.size = vs.length + 1 := by simp
  refine tail_any hl.typeIs slot_list_getitem.lookup (wpAny_getItem_list_neg hl (by decide) (by rw [hz]; omega) (by decide) ?_ h) hs
  rw [hz]
  have e : (-1 + ((vs.length + 1 : Nat) : Int)).toNat = vs.length := by omega
  rw [e]
  simp
end
local macro_rules | `(tactic| walk_at "subscriptTail") => `(tactic| (k_here; (with_reducible show wpAny _ _ (subscriptTail _ _ (Value.ref _) (Value.int (-1) _)) _ _ _); k_dflt (refine' my_llast ?k1 ?k2 ?_; (case k1 => k_asm); (case k2 => k_mem))))
section
variable {prog : Program} {w : World} {A : Around} {Q E : Value → Shared → Prop} {s : Shared} {L : Addr} {h₀ : Heap} {m : Str → Option Value} {rest : List (Addr × Obj)}
theorem my_append_under {l d : Addr} {od : Obj} {its : Array Value} {n : Nat} {x : Value} (F : Fr h₀ L s.heap m) (N : News h₀ L s.heap ((d, od) :: (l, listOf its n) :: rest)) (hd : @LT.lt Nat _ l d) (hne : ∀ p ∈ rest, p.1 ≠ l) (hsz : its.size ≤ 16777216)
    (h : ∀ h', Fr h₀ L h' m → News h₀ L h' ((l, listOf (its.push x) (n + 1)) :: (d, od) :: rest) → Q .none { s with heap := h' }) : wpAny (model prog w) A (call (.builtin "list.append") [.ref l, x]) Q E s :=
  my_append_ne (rest := (d, od) :: rest) F N (.tail _ (.head _)) (fun p hp => by
    rcases List.mem_cons.mp hp with rfl | hp
    · exact (Nat.ne_of_lt hd).symm
    · exact hne p hp) (fun p hp => by
    rcases List.mem_cons.mp hp with rfl | hp
    · exact .head _
    · exact .tail _ (.tail _ hp)) hsz h
end
local macro_rules | `(tactic| walk_at "call builtin:list.append") => `(tactic| (k_here; (with_reducible show wpAny _ _ (call (Value.builtin _) [Value.ref _, _]) _ _ _); k_dflt (refine' my_append_under ?k1 ?k2 ?k3 ?k4 ?k6 ?_; (case k1 => k_asm); (case k2 => k_asm); (case k3 => omega); (case k4 => assumption); (case k6 => assumption)); intro h' F' N'; (try k_sweep)))
theorem split_tokens_tell (w : World) (news : List (Addr × Obj)) (lt : Addr) (vs : List Value) (c : Nat) (ts : List Tk3) (sg : UInt8) (tsg : Tok) (hm : (lt, listOf vs.toArray c) ∈ news) (hall : DatAll news vs (ts.map tokD)) (hz : ts.length ≤ 1000) :
    Tell w news 132 [.ref lt, .bytes [sg].toArray tsg] 6 48 (fun v news' => ∃ (lf : Addr) (gs : List Gp) (k : Nat), v = .ref lf ∧ news' = (lf, listOf (gs.map Gp.ref).toArray k) :: (gs.map Gp.obj ++ news) ∧ Alls news gs (partsOf sg ts)) := by
  have hvl : vs.length = ts.length := by rw [hall.length, List.length_map]
  unfold Tell
  intro mean mg mb dp un gd cn cs a ccd cl' outer A₀ base h₀ L m s Q E Bw F X N T hk hd hu hret
  refine wpAny_call ?_
  k_dflt cell_enter
  k_steps
  rename_i l0 h01 l01 lf h02 lf1 h03 F1 N1
  refine unstop ?_
  (with_unfolding_all refine' For_invVF F1 ?k1 ?k2 ?_; (case k1 => exact rfl); (case k2 => exact rfl))
  k_steps
  refine unstop ?_
  refine kdl_iter (vs := vs) (nn := c) (l := lt) (fun i m nx => ∃ (gs : List Gp) (cur : Gp) (k : Nat), nx = (lf, listOf ((gs.map Gp.ref) ++ [Value.ref cur.1]).toArray k) :: (cur.obj :: (gs.map Gp.obj ++ news)) ∧ Alls news gs (spl sg (ts.take i)).1 ∧ DatAll news cur.2.1 ((spl sg (ts.take i)).2.map tokD) ∧ gs.length ≤ i ∧ cur.2.1.length ≤ i ∧
      (∀ p ∈ gs.map Gp.obj ++ news, p.1 ≠ lf ∧ p.1 ≠ cur.1) ∧ cur.1 ≠ lf ∧
      AllAt m [(Str.ofString "tokens", .ref lt), (Str.ofString "sign", .bytes [sg].toArray tsg), (Str.ofString "found", .ref lf)])
    rfl (.tail _ (.tail _ hm)) F1 N1 ⟨[], (l0, [], 0), 0, rfl, True.intro, .nil, Nat.le_refl _, Nat.le_refl _, fun p hp => ⟨Nat.ne_of_lt (Nat.lt_trans (l01 p hp) lf1.1), Nat.ne_of_lt (l01 p hp)⟩, Nat.ne_of_lt lf1.1, rfl, rfl, rfl, trivial⟩ ?_ ?_
  · rintro i v m₁ nx h₁ tk₁ own hv hoff hmx ⟨gs, cur, k, hnx, hgs, hcur, hgl, hcl, hne, hnc, hm'⟩ F₁ N₁
    subst nx
    have hi : i < ts.length := by rw [← hvl]; exact (List.getElem?_eq_some_iff.mp hv).1
    obtain ⟨q, n1, t2, t3, t4, hq, hqm⟩ := tok_at hall hi
    rw [hq] at hv
    cases hv
    have hdat : DatIn news (.ref q) (tokD ts[i]) := by
      obtain ⟨v, hv, hd⟩ := hall.get (k := i) (by simpa using hi)
      rw [List.getElem_map] at hd
      rw [hq] at hv
      cases hv
      exact hd
    have htake : spl sg (ts.take (i + 1)) = splStep sg (spl sg (ts.take i)) ts[i] := by
      rw [List.take_add_one, List.getElem?_eq_getElem hi]
      exact spl_snoc _ _ _
    have F₂ := ats F₁ (ps := [(Str.ofString "token", .ref q), (Str.ofString "tokens", .ref lt), (Str.ofString "sign", .bytes [sg].toArray tsg), (Str.ofString "found", .ref lf)]) ⟨rfl, hm'.1, hm'.2.1, hm'.2.2.1, trivial⟩
    have hoff1 : ∀ p ∈ own, p.1 ≠ lf := fun p hp => hoff p hp lf (.head _)
    have hoff2 : ∀ p ∈ own, p.1 ≠ cur.1 := fun p hp => hoff p hp cur.1 (.tail _ (.head _))
    have hne1 : ∀ p ∈ cur.obj :: (gs.map Gp.obj ++ news ++ own), p.1 ≠ lf := fun p hp => by
      rcases List.mem_cons.mp hp with rfl | hp
      · exact hnc
      · rcases List.mem_append.mp hp with hp | hp
        · exact (hne p hp).1
        · exact hoff1 p hp
    have hne2 : ∀ p ∈ (lf, listOf ((gs.map Gp.ref) ++ [Value.ref cur.1]).toArray k) :: (gs.map Gp.obj ++ news ++ own), p.1 ≠ cur.1 := fun p hp => by
      rcases List.mem_cons.mp hp with rfl | hp
      · exact hnc.symm
      · rcases List.mem_append.mp hp with hp | hp
        · exact (hne p hp).2
        · exact hoff2 p hp
    have N₂ : News _ _ h₁ ((lf, listOf ((gs.map Gp.ref) ++ [Value.ref cur.1]).toArray k) :: (cur.obj :: (gs.map Gp.obj ++ news ++ own))) := N₁
    have hqL : (q, tup3 (.str (ts[i]).1.str t2) (.bytes (ts[i]).2.1.toArray t3) (.int ((ts[i]).2.2 : Int) t4) n1) ∈ gs.map Gp.obj ++ news ++ own := List.mem_append_left _ (List.mem_append_right _ hqm)
    have hcurL : (cur.1, listOf cur.2.1.toArray cur.2.2) ∈ cur.obj :: (gs.map Gp.obj ++ news ++ own) := .head _
    have hsz1 : cur.2.1.toArray.size ≤ 16777216 := by rw [List.size_toArray]; omega
    have hsz2 : ((gs.map Gp.ref) ++ [Value.ref cur.1]).toArray.size ≤ 16777216 := by simp; omega
    clear F₁ N₁ F1 N1
    generalize ts[i] = x at *
    obtain ⟨kd, wo, o⟩ := x
    dsimp only at *
    by_cases hkd : kd = .sign
    · subst hkd
      have hsg : (Kd.sign.str == Str.ofString "sign") = true := by decide
      by_cases hwo : wo = [sg]
      · subst hwo
        k_steps
        rename_i l3 h31 l3lt h32 F3 N3
        obtain ⟨hl3, hl3c, hl3r⟩ := l3lt
        have hA := allLt_mem hl3r
        have e : (gs.map Gp.ref ++ [Value.ref cur.1]).toArray.push (.ref l3) = (((gs ++ [cur]).map Gp.ref) ++ [Value.ref l3]).toArray := by simp [Gp.ref]
        rw [e] at N3
        have hstep : splStep sg (spl sg (ts.take i)) (Kd.sign, [sg], o) = ((spl sg (ts.take i)).1 ++ [(spl sg (ts.take i)).2], []) := by unfold splStep isAt; rw [if_pos (by simp)]
        refine InvEndG.intro (nx := (lf, listOf (((gs ++ [cur]).map Gp.ref) ++ [Value.ref l3]).toArray (k + 1)) :: (Gp.obj (l3, [], 0) :: ((gs ++ [cur]).map Gp.obj ++ news))) F3 N3 ⟨.tail _ (.tail _ (List.mem_append_right _ hm)), gs ++ [cur], (l3, [], 0), k + 1, rfl, ?gs, ?cur, ?gl, ?cl, ?ne, (Nat.ne_of_lt hl3).symm, rfl, rfl, rfl, trivial⟩ ?off ?sub1 ?sub2
        case gs => rw [htake, hstep]; exact Alls.snoc hcur hgs
        case cur => rw [htake, hstep]; exact .nil
        case gl => simp only [List.length_append, List.length_cons, List.length_nil]; omega
        case cl => exact Nat.zero_le _
        case ne =>
          intro p hp
          simp only [List.map_append, List.map_cons, List.map_nil, List.mem_append, List.mem_cons, List.not_mem_nil, or_false] at hp
          rcases hp with (hp | rfl) | hp
          · exact ⟨(hne p (List.mem_append_left _ hp)).1, Nat.ne_of_lt (hA p (List.mem_append_left _ (List.mem_append_left _ hp)))⟩
          · exact ⟨hnc, Nat.ne_of_lt hl3c⟩
          · exact ⟨(hne p (List.mem_append_right _ hp)).1, Nat.ne_of_lt (hA p (List.mem_append_left _ (List.mem_append_right _ hp)))⟩
        case off =>
          intro p hp b hb
          obtain ⟨y, hy, rfl⟩ := List.mem_map.mp hb
          simp only [List.map_append, List.map_cons, List.map_nil, List.mem_append, List.mem_cons, List.not_mem_nil, or_false] at hy
          rcases hy with rfl | rfl | (hy | rfl) | hy
          · exact hoff1 p hp
          · exact Nat.ne_of_lt (hA p (List.mem_append_right _ hp))
          · exact hoff p hp _ (List.mem_map.mpr ⟨y, .tail _ (.tail _ (List.mem_append_left _ hy)), rfl⟩)
          · exact hoff2 p hp
          · exact hoff p hp _ (List.mem_map.mpr ⟨y, .tail _ (.tail _ (List.mem_append_right _ hy)), rfl⟩)
        case sub1 =>
          intro p hp
          simp only [List.map_append, List.map_cons, List.map_nil, List.mem_append, List.mem_cons, List.not_mem_nil, or_false] at hp ⊢
          rcases hp with h | h | (h | h) | h
          · exact .inl h
          · exact .inr (.inl h)
          · exact .inr (.inr (.inr (.inl (.inl h))))
          · exact .inr (.inr (.inl h))
          · exact .inr (.inr (.inr (.inl (.inr h))))
        case sub2 => exact fun p hp => .tail _ (.tail _ (.tail _ (List.mem_append_right _ hp)))
      · k_steps
        (with_reducible rename Fr _ _ _ _ => F3)
        (with_reducible rename News _ _ _ _ => N3)
        have e : cur.2.1.toArray.push (.ref q) = (cur.2.1 ++ [Value.ref q]).toArray := by simp
        rw [e] at N3
        have hstep : splStep sg (spl sg (ts.take i)) (Kd.sign, wo, o) = ((spl sg (ts.take i)).1, (spl sg (ts.take i)).2 ++ [(Kd.sign, wo, o)]) := by unfold splStep isAt; rw [if_neg (by simp [hwo])]
        refine InvEndG.intro (nx := (lf, listOf ((gs.map Gp.ref) ++ [Value.ref cur.1]).toArray k) :: (Gp.obj (cur.1, cur.2.1 ++ [Value.ref q], cur.2.2 + 1) :: (gs.map Gp.obj ++ news))) F3 N3 ⟨.tail _ (.tail _ (List.mem_append_right _ hm)), gs, (cur.1, cur.2.1 ++ [Value.ref q], cur.2.2 + 1), k, rfl, ?gs, ?cur, ?gl, ?cl, hne, hnc, rfl, rfl, rfl, trivial⟩ (by exact hoff) ?sub1 ?sub2
        case gs => rw [htake, hstep]; exact hgs
        case cur =>
          rw [htake, hstep]
          show DatAll news (cur.2.1 ++ [Value.ref q]) (((spl sg (ts.take i)).2 ++ [(Kd.sign, wo, o)]).map tokD)
          rw [List.map_append]
          exact hcur.append (.one hdat)
        case gl => omega
        case cl => simp only [List.length_append, List.length_cons, List.length_nil]; omega
        case sub1 =>
          intro p hp
          simp only [List.mem_append, List.mem_cons] at hp ⊢
          rcases hp with h | h | h
          · exact .inr (.inl h)
          · exact .inl h
          · exact .inr (.inr (.inl h))
        case sub2 => exact fun p hp => .tail _ (.tail _ (List.mem_append_right _ hp))
    · have hsg := not_sign_str kd hkd
      k_steps
      (with_reducible rename Fr _ _ _ _ => F3)
      (with_reducible rename News _ _ _ _ => N3)
      have e : cur.2.1.toArray.push (.ref q) = (cur.2.1 ++ [Value.ref q]).toArray := by simp
      rw [e] at N3
      have hstep : splStep sg (spl sg (ts.take i)) (kd, wo, o) = ((spl sg (ts.take i)).1, (spl sg (ts.take i)).2 ++ [(kd, wo, o)]) := by unfold splStep isAt; rw [if_neg (by simp [hkd])]
      refine InvEndG.intro (nx := (lf, listOf ((gs.map Gp.ref) ++ [Value.ref cur.1]).toArray k) :: (Gp.obj (cur.1, cur.2.1 ++ [Value.ref q], cur.2.2 + 1) :: (gs.map Gp.obj ++ news))) F3 N3 ⟨.tail _ (.tail _ (List.mem_append_right _ hm)), gs, (cur.1, cur.2.1 ++ [Value.ref q], cur.2.2 + 1), k, rfl, ?gs, ?cur, ?gl, ?cl, hne, hnc, rfl, rfl, rfl, trivial⟩ (by exact hoff) ?sub1 ?sub2
      case gs => rw [htake, hstep]; exact hgs
      case cur =>
        rw [htake, hstep]
        show DatAll news (cur.2.1 ++ [Value.ref q]) (((spl sg (ts.take i)).2 ++ [(kd, wo, o)]).map tokD)
        rw [List.map_append]
        exact hcur.append (.one hdat)
      case gl => omega
      case cl => simp only [List.length_append, List.length_cons, List.length_nil]; omega
      case sub1 =>
        intro p hp
        simp only [List.mem_append, List.mem_cons] at hp ⊢
        rcases hp with h | h | h
        · exact .inr (.inl h)
        · exact .inl h
        · exact .inr (.inr (.inl h))
      case sub2 => exact fun p hp => .tail _ (.tail _ (List.mem_append_right _ hp))
  · rintro m₁ nx h₁ tk₁ ⟨gs, cur, k, hnx, hgs, hcur, hgl, hcl, hne, hnc, hm'⟩ F₁ N₁
    subst nx
    have F₂ := ats F₁ hm'
    clear F₁ F1 N1
    rw [hvl, List.take_length] at hgs hcur
    k_steps
    have hs3 : ∀ p ∈ (lf, listOf ((gs ++ [cur]).map Gp.ref).toArray k) :: ((gs ++ [cur]).map Gp.obj ++ news), p ∈ (lf, listOf ((gs.map Gp.ref) ++ [Value.ref cur.1]).toArray k) :: (cur.obj :: (gs.map Gp.obj ++ news)) := fun p hp => by
      simp only [List.map_append, List.map_cons, List.map_nil, List.mem_append, List.mem_cons, List.not_mem_nil, or_false] at hp ⊢
      rcases hp with h | (h | h) | h
      · exact .inl h
      · exact .inr (.inr (.inl h))
      · exact .inr (.inl h)
      · exact .inr (.inr (.inr h))
    exact fin_ret hret ((lf, listOf ((gs ++ [cur]).map Gp.ref).toArray k) :: ((gs ++ [cur]).map Gp.obj ++ news)) (by assumption) (by assumption) hs3 ⟨lf, gs ++ [cur], k, rfl, rfl, Alls.snoc hcur hgs⟩
end
theorem fresh_H1 : ite True True True := by
  try (walk1; fail)
  w_top off
  exact trivial
section
/-- a digit -/
structure Dig (d m : Int) : Prop where
  lo : 0 ≤ d
  hi : d < m
theorem Dig.nat {d m : Int} (h : Dig d m) : ∃ k : Nat, d = (k : Int) ∧ (k : Int) < m := ⟨d.toNat, by have := h.lo; omega, by have := h.lo; have := h.hi; omega⟩
noncomputable def PoolOk (vs : List Value) : Prop := vs.length ≤ 24 ∧ ∀ v ∈ vs, ∃ (k : Int) (t : Tok), v = .int k t
theorem PoolOk.tail {v : Value} {r : List Value} (h : PoolOk (v :: r)) : PoolOk r := ⟨by have := h.1; rw [List.length_cons] at this; omega, fun x hx => h.2 x (.tail _ hx)⟩
theorem PoolOk.set {v : Value} {r : List Value} {k : Int} {t : Tok} (h : PoolOk (v :: r)) : PoolOk (.int k t :: r) := ⟨h.1, fun x hx => by
  rcases List.mem_cons.mp hx with rfl | hx
  · exact ⟨k, t, rfl⟩
  · exact h.2 x (.tail _ hx)⟩
section
variable {prog : Program} {w : World} {A : Around} {E : Value → Shared → Prop} {s : Shared} {h₀ : Heap} {L lp : Addr} {m : Str → Option Value} {rest : List (Addr × Obj)} {n : Nat} {v x : Value} {r : List Value} {t : Tok}
theorem my_set0 {Q : Unit → Shared → Prop} (F : Fr h₀ L s.heap m) (N : News h₀ L s.heap ((lp, listOf (v :: r).toArray n) :: rest)) (hne : ∀ p ∈ rest, p.1 ≠ lp)
    (h : ∀ h', Fr h₀ L h' m → News h₀ L h' ((lp, listOf (x :: r).toArray n) :: rest) → Q () { s with heap := h' }) : wpAny (model prog w) A (setItem (.ref lp) (.int 0 t) x) Q E s := by
  have z := N _ (.head _)
  refine ki_setAt z.1 (Int.le_refl _) (by decide) (by simp) (h _ (F.change (Heap.SameBut.update ..) z.2.1 z.2.2) (ki_turn (pre := []) _ N (fun _ h => nomatch h) hne ?_ ?_))
  · apply Array.toList_inj.mp
    simp
  · simp
theorem my_pop0 {u : Tok} {Q : Value → Shared → Prop} (F : Fr h₀ L s.heap m) (N : News h₀ L s.heap ((lp, listOf (v :: r).toArray n) :: rest)) (hne : ∀ p ∈ rest, p.1 ≠ lp) (hz : r.length ≤ 1000)
    (h : ∀ h', Fr h₀ L h' m → News h₀ L h' ((lp, listOf r.toArray (n + 1)) :: rest) → Q v { s with heap := h' }) : wpAny (model prog w) A (call (.builtin "list.pop") [.ref lp, .int 0 u]) Q E s :=
  kl_popAt (k := 0) (p := []) (q := r) (y := v) F N rfl (by simp [seqIndex?]) rfl (.head hne) (by rw [sizeLine_eq]; show r.length + 1 ≤ _; omega) h
theorem my_litem0 {value slice : PySem.Expr} {news : List (Addr × Obj)} {u : Tok} {Q : Value → Shared → Prop} (N : News h₀ L s.heap news) (hm : (lp, listOf (v :: r).toArray n) ∈ news) (h : Q v s)
    (hs : subscripted slice false (.ref lp) (.int 0 u) = operate [.ref lp, .int 0 u] (getItem (.ref lp) (.int 0 u)) := by with_unfolding_all rfl) : wpAny (model prog w) A (subscriptTail value slice (.ref lp) (.int 0 u)) Q E s :=
  my_litem (i := 0) N hm rfl rfl (by decide) h hs
end
local macro_rules | `(tactic| walk_at "setItem ref int") => `(tactic| (k_here; (with_reducible show wpAny _ _ (setItem (Value.ref _) (Value.int 0 _) _) _ _ _); k_dflt (refine' my_set0 ?k1 ?k2 ?k3 ?_; (case k1 => k_asm); (case k2 => k_asm); (case k3 => assumption)); intro h' F' N'; (try k_sweep)))
local macro_rules | `(tactic| walk_at "call builtin:list.pop") => `(tactic| (k_here; k_dflt (refine' my_pop0 ?k1 ?k2 ?k3 ?k4 ?_; (case k1 => k_asm); (case k2 => k_asm); (case k3 => assumption); (case k4 => omega)); intro h' F' N'; (try k_sweep)))
local macro_rules | `(tactic| walk_at "subscriptTail") => `(tactic| (k_here; (with_reducible show wpAny _ _ (subscriptTail _ _ (Value.ref _) (Value.int 0 _)) _ _ _); k_dflt (refine' my_litem0 ?k1 ?k2 ?_; (case k1 => k_asm); (case k2 => k_mem))))
theorem take_tell (w : World) (rest : List (Addr × Obj)) (lp : Addr) (vs : List Value) (n : Nat) (many : Int) (tm : Tok) (hp : PoolOk vs) (hne : ∀ p ∈ rest, p.1 ≠ lp) (hm : 1 ≤ many) (hm2 : many ≤ 100) :
    Tell w ((lp, listOf vs.toArray n) :: rest) 167 [.ref lp, .int many tm] 1 16 (fun v news' => ∃ (d : Int) (t : Tok) (vs' : List Value) (n' : Nat), v = .int d t ∧ Dig d many ∧ news' = (lp, listOf vs'.toArray n') :: rest ∧ PoolOk vs') := by
  unfold Tell
  intro mean mg mb dp un gd cn cs a ccd cl' outer A₀ base h₀ L m s Q E Bw F X N T hk hd hu hret
  refine wpAny_call ?_
  k_dflt cell_enter
  obtain ⟨hlen, hints⟩ := id hp
  rcases vs with _ | ⟨v, r⟩
  · k_steps
    exact fin_ret hret _ (by assumption) (by assumption) (fun _ h => h) ⟨0, _, [], _, rfl, ⟨by omega, by omega⟩, rfl, hp⟩
  · obtain ⟨k, tk, rfl⟩ := hints v (.head _)
    have hrl : r.length ≤ 1000 := by simp at hlen; omega
    have hvl : (Value.int k tk :: r).length = r.length + 1 := rfl
    have hd0 : 0 ≤ k.fmod many := Int.fmod_nonneg_of_pos k (by omega)
    have hd1 : k.fmod many < many := Int.fmod_lt_of_pos k (by omega)
    k_steps
    · exact fin_ret hret _ (by assumption) (by assumption) (fun _ h => h) ⟨_, _, _, _, rfl, ⟨hd0, hd1⟩, rfl, hp.tail⟩
    · exact fin_ret hret _ (by assumption) (by assumption) (fun _ h => h) ⟨_, _, _, _, rfl, ⟨hd0, hd1⟩, rfl, hp.set⟩
theorem Tell.at {w : World} {news news₂ : List (Addr × Obj)} {f : Addr} {args : List Value} {d u : Nat} {Post : Value → List (Addr × Obj) → Prop} (T : Tell w news₂ f args d u Post) (hs : ∀ p ∈ news₂, p ∈ news) : Tell w news f args d u Post :=
  fun _ _ _ _ _ _ _ _ _ _ _ _ _ _ _ _ _ _ _ _ B F X N Tp hk hd hu ret => T.use B F X (kst_newsOf N hs) Tp hk hd hu ret
theorem news_swap {x y : Addr × Obj} {r : List (Addr × Obj)} : ∀ p ∈ x :: y :: r, p ∈ y :: x :: r := fun p hp => by
  rcases List.mem_cons.mp hp with rfl | hp
  · exact .tail _ (.head _)
  · rcases List.mem_cons.mp hp with rfl | hp
    · exact .head _
    · exact .tail _ (.tail _ hp)
theorem news_rot3 {x y z : Addr × Obj} {r : List (Addr × Obj)} : ∀ p ∈ x :: y :: z :: r, p ∈ y :: z :: x :: r := fun p hp => by
  rcases List.mem_cons.mp hp with rfl | hp
  · exact .tail _ (.tail _ (.head _))
  · rcases List.mem_cons.mp hp with rfl | hp
    · exact .head _
    · rcases List.mem_cons.mp hp with rfl | hp
      · exact .tail _ (.head _)
      · exact .tail _ (.tail _ (.tail _ hp))
section
variable {prog : Program} {w : World} {A : Around} {E : Value → Shared → Prop} {s : Shared} {h₀ : Heap} {L D : Addr} {news : List (Addr × Obj)} {n : Nat} {vs : List Value} {u : Tok}
theorem my_pick {value slice : PySem.Expr} {k : Int} {Q : Value → Shared → Prop} (N : News h₀ L s.heap news) (hm : (D, ({ cls := .type "tuple", data := .seq vs.toArray n } : Obj)) ∈ news) (h0 : 0 ≤ k) (h1 : k < vs.length) (hz : vs.length ≤ 1000) (h : ∀ v ∈ vs, Q v s)
    (hs : subscripted slice false (.ref D) (.int k u) = operate [.ref D, .int k u] (getItem (.ref D) (.int k u)) := by with_unfolding_all rfl) : wpAny (model prog w) A (subscriptTail value slice (.ref D) (.int k u)) Q E s := by
  have hlt : k.toNat < vs.length := by omega
  have ht : IsTup s.heap D vs.toArray := ⟨_, (N _ hm).1, rfl, n, rfl⟩
  refine tail_any ht.typeIs slot_tuple_getitem.lookup (getItem_tuple (j := k.toNat) (x := vs[k.toNat]) ht (by omega) (by omega) ?_ ?_ (h _ (List.getElem_mem hlt))) hs
  · have hk : ¬ k < 0 := by omega
    simp [seqIndex?, hk, h0, h1]
  · simp
end
noncomputable def ivals (items : List (UInt8 × Tok)) : List Value := items.map fun p => Value.int (p.1.toNat : Int) p.2
theorem ivals_snoc (items : List (UInt8 × Tok)) (c : UInt8) (t : Tok) : (ivals (items ++ [(c, t)])).toArray = (ivals items).toArray.push (.int (c.toNat : Int) t) := by
  simp [ivals]
theorem ivals_ints : ∀ items : List (UInt8 × Tok), IntsAre (ivals items) (items.map fun p => (p.1.toNat : Int))
  | [] => .nil
  | p :: r => .cons _ _ (ivals_ints r)
section
variable {prog : Program} {w : World} {A : Around} {E : Value → Shared → Prop} {s : Shared} {h₀ : Heap} {L l : Addr} {m : Str → Option Value} {news : List (Addr × Obj)} {n : Nat}
theorem my_bytes {items : List (UInt8 × Tok)} {b : B} {Q : Value → Shared → Prop} (F : Fr h₀ L s.heap m) (N : News h₀ L s.heap news) (hm : (l, listOf (ivals items).toArray n) ∈ news) (e : items.map (·.1) = b) (hz : items.length ≤ 1000) (hh : A.handled = none)
    (h : ∀ t' h' k, Fr h₀ L h' m → News h₀ L h' news → Q (.bytes b.toArray t') { s with heap := h', toks := k }) : wpAny (model prog w) A (call (.type "bytes") [.ref l]) Q E s := by
  refine bytes_K F N ⟨_, (N _ hm).1, rfl, n, rfl⟩ (ivals_ints items) (fun x hx => ?_) (by rw [sizeLine_eq]; simp [ivals]; omega) hh ?_
  · obtain ⟨p, _, rfl⟩ := List.mem_map.mp hx
    have := p.1.toNat_lt
    omega
  · intro h' t' k F' N' _
    have e2 : (items.map fun p => (p.1.toNat : Int)).map (fun n => n.toNat.toUInt8) = b := by
      rw [← e, List.map_map]
      refine List.map_congr_left fun p _ => ?_
      simp
    rw [e2]
    exact h t' h' k F' N'
end
end
theorem fresh_H2 : ite True True True := by
  try (walk1; fail)
  w_top off
  exact trivial
section
local macro_rules | `(tactic| k_all) => `(tactic| assumption)
local macro_rules | `(tactic| walk_at "call ref") => `(tactic| ((with_reducible show wpAny _ _ (call (Value.ref 167) _) _ _ _); k_dflt (refine' Tell.use (Tell.at (take_tell _ (_ :: _ :: _) _ _ _ _ _ (by assumption) ?kH (by decide) (by decide)) news_rot3) ?k1 ?k2 ?k3 ?k4 ?k5 ?kK ?kd ?ku ?_; (case k1 => k_asm); (case k2 => k_asm); (case k3 => k_asm); (case k4 => k_asm); (case k5 => k_asm); (case kH => k_all); (case kK => first | exact rfl | assumption); (case kd => ktr_room); (case ku => ktr_units)); (intro v9 n9 h9 tk9 p9 F9 N9; obtain ⟨d9, t9, vs9, m9, e9, d9a, e8, p9'⟩ := p9; subst v9; subst n9); (try dsimp only); (try k_sweep); (try k_fold)))
local macro_rules | `(tactic| walk_at "call ref") => `(tactic| ((with_reducible show wpAny _ _ (call (Value.ref 167) _) _ _ _); k_dflt (refine' Tell.use (Tell.at (take_tell _ (_ :: _) _ _ _ _ _ (by assumption) ?kH (by decide) (by decide)) news_swap) ?k1 ?k2 ?k3 ?k4 ?k5 ?kK ?kd ?ku ?_; (case k1 => k_asm); (case k2 => k_asm); (case k3 => k_asm); (case k4 => k_asm); (case k5 => k_asm); (case kH => k_all); (case kK => first | exact rfl | assumption); (case kd => ktr_room); (case ku => ktr_units)); (intro v9 n9 h9 tk9 p9 F9 N9; obtain ⟨d9, t9, vs9, m9, e9, d9a, e8, p9'⟩ := p9; subst v9; subst n9); (try dsimp only); (try k_sweep); (try k_fold)))
local macro_rules | `(tactic| walk_at "call ref") => `(tactic| ((with_reducible show wpAny _ _ (call (Value.ref 167) _) _ _ _); k_dflt (refine' Tell.use (take_tell _ _ _ _ _ _ _ (by assumption) ?kH (by decide) (by decide)) ?k1 ?k2 ?k3 ?k4 ?k5 ?kK ?kd ?ku ?_; (case k1 => k_asm); (case k2 => k_asm); (case k3 => k_asm); (case k4 => k_asm); (case k5 => k_asm); (case kH => k_all); (case kK => first | exact rfl | assumption); (case kd => ktr_room); (case ku => ktr_units)); (intro v9 n9 h9 tk9 p9 F9 N9; obtain ⟨d9, t9, vs9, m9, e9, d9a, e8, p9'⟩ := p9; subst v9; subst n9); (try dsimp only); (try k_sweep); (try k_fold)))
local macro_rules | `(tactic| walk_at "subscriptTail") => `(tactic| ((with_reducible show wpAny _ _ (subscriptTail (Expr.Tuple _ _ _) _ _ _) _ _ _); with_reducible refine stop ?_))
local macro_rules | `(tactic| walk_at "callWith") => `(tactic| ((with_reducible refine callWith_method1 ?_ ?h1 ?h2); (case h1 => (simp only [starEach]; done)); (case h2 => k_dflt (exact rfl))))
noncomputable def worthTab : B := [97, 34, 92, 40, 41, 91, 93, 32, 200, 9, 44, 0, 10]
theorem worth_pick {t0 t1 t2 t3 t4 t5 t6 t7 t8 t9 t10 t11 t12 : Tok} {v : Value} (h : v ∈ [Value.int 97 t0, .int 34 t1, .int 92 t2, .int 40 t3, .int 41 t4, .int 91 t5, .int 93 t6, .int 32 t7, .int 200 t8, .int 9 t9, .int 44 t10, .int 0 t11, .int 10 t12]) : ∃ c ∈ worthTab, ∃ t, v = .int ((c : UInt8).toNat : Int) t := by
  simp only [List.mem_cons, List.not_mem_nil, or_false] at h
  rcases h with rfl | rfl | rfl | rfl | rfl | rfl | rfl | rfl | rfl | rfl | rfl | rfl | rfl
  · exact ⟨97, by decide, _, rfl⟩
  · exact ⟨34, by decide, _, rfl⟩
  · exact ⟨92, by decide, _, rfl⟩
  · exact ⟨40, by decide, _, rfl⟩
  · exact ⟨41, by decide, _, rfl⟩
  · exact ⟨91, by decide, _, rfl⟩
  · exact ⟨93, by decide, _, rfl⟩
  · exact ⟨32, by decide, _, rfl⟩
  · exact ⟨200, by decide, _, rfl⟩
  · exact ⟨9, by decide, _, rfl⟩
  · exact ⟨44, by decide, _, rfl⟩
  · exact ⟨0, by decide, _, rfl⟩
  · exact ⟨10, by decide, _, rfl⟩
theorem worth_tell (w : World) (rest : List (Addr × Obj)) (lp : Addr) (vs : List Value) (n : Nat) (hp : PoolOk vs) (hne : ∀ p ∈ rest, p.1 ≠ lp) :
    Tell w ((lp, listOf vs.toArray n) :: rest) 174 [.ref lp] 3 32 (fun v news' => ∃ (wo : B) (t : Tok) (vs' : List Value) (n' : Nat), v = .bytes wo.toArray t ∧ wo.length ≤ 4 ∧ (∀ c ∈ wo, c ∈ worthTab) ∧ news' = (lp, listOf vs'.toArray n') :: rest ∧ PoolOk vs') := by
  unfold Tell
  intro mean mg mb dp un gd cn cs a ccd cl' outer A₀ base h₀ L m s Q E Bw F X N T hk hd hu hret
  refine wpAny_call ?_
  k_dflt cell_enter
  k_steps
  rename_i l h2 l1 h3 F1 N1
  obtain ⟨hll, hlr⟩ := l1
  have hlp : l ≠ lp := (Nat.ne_of_lt hll).symm
  refine unstop ?_
  (with_unfolding_all refine' For_invVF F1 ?k1 ?k2 ?_; (case k1 => exact rfl); (case k2 => exact rfl))
  k_steps
  try clear F1 N1
  (with_reducible rename Fr _ _ _ _ => F1)
  (with_reducible rename News _ _ _ _ => N1)
  (rename IsRange _ _ _ _ _ _ _ _ => hR)
  refine unstop ?_
  (with_reducible rename Dig _ _ => hd5)
  (rename PoolOk _ => hp9)
  obtain ⟨kd, rfl, hkd⟩ := hd5.nat
  have hlr' := allLt_mem hlr
  refine my_range (n := kd) (fun i m nx => ∃ (items : List (UInt8 × Tok)) (k : Nat) (vs' : List Value) (n' : Nat), items.length ≤ i ∧ (∀ p ∈ items, p.1 ∈ worthTab) ∧ nx = (l, listOf (ivals items).toArray k) :: (lp, listOf vs'.toArray n') :: rest ∧ PoolOk vs' ∧
    AllAt m [(Str.ofString "pool", .ref lp), (Str.ofString "codes", .ref l)])
    rfl hR rfl (by omega) F1 (kst_newsOf N1 news_swap) ⟨[], 0, _, _, Nat.le_refl _, (fun _ h => nomatch h), rfl, hp9, rfl, rfl, trivial⟩ ?_ ?_
  · rintro i ti m₁ nx h₁ tk₁ own hi hoff ⟨items, k, vs', n', hil, hit, hnx, hpo, hm⟩ F₁ N₁
    subst nx
    have F₂ := ats F₁ (ps := [(Str.ofString "turn", .int (i : Int) ti), (Str.ofString "pool", .ref lp), (Str.ofString "codes", .ref l)]) ⟨rfl, hm.1, hm.2.1, trivial⟩
    have N₂ : News _ _ h₁ ((l, listOf (ivals items).toArray k) :: (lp, listOf vs'.toArray n') :: (rest ++ own)) := N₁
    clear F₁ N₁ F1 N1
    have hne1 : ∀ p ∈ rest ++ own, p.1 ≠ lp := fun p hp => by
      rcases List.mem_append.mp hp with hp | hp
      · exact hne p hp
      · exact hoff p hp lp (.tail _ (.head _))
    have hne2 : True → ∀ p ∈ rest ++ own, p.1 ≠ l := fun _ p hp => by
      rcases List.mem_append.mp hp with hp | hp
      · exact Nat.ne_of_lt (hlr' p hp)
      · exact hoff p hp l (.head _)
    have hsz0 : (ivals items).toArray.size ≤ 16777216 := by
      have : (ivals items).toArray.size = items.length := by simp [ivals]
      omega
    k_steps
    all_goals refine unstop ?_
    all_goals (with_reducible rename News _ _ _ _ => N4)
    all_goals (rename Dig _ 12 => hd12)
    all_goals have hd12a := hd12.lo
    all_goals have hd12b := hd12.hi
    all_goals k_dflt (refine' my_pick N4 (.tail _ (.head _)) ?p0 ?p1 ?pz ?_; (case p0 => omega); (case p1 => (simp only [List.length_cons, List.length_nil]; omega)); (case pz => simp))
    all_goals intro v hv
    all_goals obtain ⟨c, hc, tc, rfl⟩ := worth_pick hv
    all_goals clear hv
    all_goals k_steps
    all_goals (with_reducible rename News _ _ _ _ => N5)
    all_goals (with_reducible rename Fr _ _ _ _ => F4)
    all_goals refine my_append_ne (s := ⟨_, _, _, _, _⟩) (rest := (lp, listOf _ _) :: (rest ++ own)) F4 N5 (.tail _ (.tail _ (.head _))) (List.forall_mem_cons.mpr ⟨hlp.symm, hne2 trivial⟩) (List.forall_mem_cons.mpr ⟨.head _, fun p hp => .tail _ (.tail _ (.tail _ hp))⟩) hsz0 (fun h' F' N' => ?_)
    all_goals clear N5 F4
    all_goals k_steps
    all_goals (with_reducible rename Fr _ _ _ _ => F3)
    all_goals (with_reducible rename News _ _ _ _ => N3)
    all_goals exact InvEndG.intro (nx := (l, _) :: (lp, listOf _ _) :: rest) F3 N3 ⟨items ++ [(c, tc)], _, _, _, by simp only [List.length_append, List.length_cons, List.length_nil]; omega, (fun p hp => by
      rcases List.mem_append.mp hp with hp | hp
      · exact hit p hp
      · rw [List.mem_singleton.mp hp]; exact hc), by rw [← ivals_snoc], by assumption, rfl, rfl, trivial⟩ (by exact hoff) (List.forall_mem_cons.mpr ⟨.head _, List.forall_mem_cons.mpr ⟨.tail _ (.head _), fun p hp => .tail _ (.tail _ (List.mem_append_left _ hp))⟩⟩) (fun p hp => .tail _ (.tail _ (List.mem_append_right _ hp)))
  · rintro m₁ nx h₁ tk₁ ⟨items, k, vs', n', hil, hit, hnx, hpo, hm⟩ F₁ N₁
    subst nx
    have F₂ := ats F₁ hm
    clear F₁ F1 N1
    k_steps
    k_dflt (refine' my_bytes (items := items) ?F ?N (.head _) rfl ?z ?h ?_; (case F => k_asm); (case N => k_asm); (case z => omega); (case h => rfl))
    intro t' h' tk' F' N'
    k_steps
    refine fin_ret hret ((lp, listOf vs'.toArray n') :: rest) (by assumption) (by assumption) (fun _ h => .tail _ h) ⟨items.map (·.1), _, vs', n', rfl, ?_, ?_, rfl, hpo⟩
    · rw [List.length_map]
      omega
    · intro c hc
      obtain ⟨p, hp, rfl⟩ := List.mem_map.mp hc
      exact hit p hp
end
theorem fresh_H3 : ite True True True := by
  try (walk1; fail)
  w_top off
  exact trivial
section
local macro_rules | `(tactic| k_all) => `(tactic| assumption)
local macro_rules | `(tactic| walk_at "call ref") => `(tactic| ((with_reducible show wpAny _ _ (call (Value.ref 167) _) _ _ _); k_dflt (refine' Tell.use (Tell.at (take_tell _ (_ :: _ :: _) _ _ _ _ _ (by assumption) ?kH (by decide) (by decide)) news_rot3) ?k1 ?k2 ?k3 ?k4 ?k5 ?kK ?kd ?ku ?_; (case k1 => k_asm); (case k2 => k_asm); (case k3 => k_asm); (case k4 => k_asm); (case k5 => k_asm); (case kH => k_all); (case kK => first | exact rfl | assumption); (case kd => ktr_room); (case ku => ktr_units)); (intro v9 n9 h9 tk9 p9 F9 N9; obtain ⟨d9, t9, vs9, m9, e9, d9a, e8, p9'⟩ := p9; subst v9; subst n9); (try dsimp only); (try k_sweep); (try k_fold)))
local macro_rules | `(tactic| walk_at "call ref") => `(tactic| ((with_reducible show wpAny _ _ (call (Value.ref 167) _) _ _ _); k_dflt (refine' Tell.use (Tell.at (take_tell _ (_ :: _) _ _ _ _ _ (by assumption) ?kH (by decide) (by decide)) news_swap) ?k1 ?k2 ?k3 ?k4 ?k5 ?kK ?kd ?ku ?_; (case k1 => k_asm); (case k2 => k_asm); (case k3 => k_asm); (case k4 => k_asm); (case k5 => k_asm); (case kH => k_all); (case kK => first | exact rfl | assumption); (case kd => ktr_room); (case ku => ktr_units)); (intro v9 n9 h9 tk9 p9 F9 N9; obtain ⟨d9, t9, vs9, m9, e9, d9a, e8, p9'⟩ := p9; subst v9; subst n9); (try dsimp only); (try k_sweep); (try k_fold)))
local macro_rules | `(tactic| walk_at "call ref") => `(tactic| ((with_reducible show wpAny _ _ (call (Value.ref 167) _) _ _ _); k_dflt (refine' Tell.use (take_tell _ _ _ _ _ _ _ (by assumption) ?kH (by decide) (by decide)) ?k1 ?k2 ?k3 ?k4 ?k5 ?kK ?kd ?ku ?_; (case k1 => k_asm); (case k2 => k_asm); (case k3 => k_asm); (case k4 => k_asm); (case k5 => k_asm); (case kH => k_all); (case kK => first | exact rfl | assumption); (case kd => ktr_room); (case ku => ktr_units)); (intro v9 n9 h9 tk9 p9 F9 N9; obtain ⟨d9, t9, vs9, m9, e9, d9a, e8, p9'⟩ := p9; subst v9; subst n9); (try dsimp only); (try k_sweep); (try k_fold)))
local macro_rules | `(tactic| walk_at "call ref") => `(tactic| ((with_reducible show wpAny _ _ (call (Value.ref 174) _) _ _ _); k_dflt (refine' Tell.use (Tell.at (worth_tell _ (_ :: _ :: _) _ _ _ (by assumption) ?kH) news_rot3) ?k1 ?k2 ?k3 ?k4 ?k5 ?kK ?kd ?ku ?_; (case k1 => k_asm); (case k2 => k_asm); (case k3 => k_asm); (case k4 => k_asm); (case k5 => k_asm); (case kH => k_all); (case kK => first | exact rfl | assumption); (case kd => ktr_room); (case ku => ktr_units)); (intro v9 n9 h9 tk9 p9 F9 N9; obtain ⟨wo9, t9, vs9, m9, e9, d9a, d9b, e8, p9'⟩ := p9; subst v9; subst n9); (try dsimp only); (try k_sweep); (try k_fold)))
local macro_rules | `(tactic| walk_at "call ref") => `(tactic| ((with_reducible show wpAny _ _ (call (Value.ref 174) _) _ _ _); k_dflt (refine' Tell.use (Tell.at (worth_tell _ (_ :: _) _ _ _ (by assumption) ?kH) news_swap) ?k1 ?k2 ?k3 ?k4 ?k5 ?kK ?kd ?ku ?_; (case k1 => k_asm); (case k2 => k_asm); (case k3 => k_asm); (case k4 => k_asm); (case k5 => k_asm); (case kH => k_all); (case kK => first | exact rfl | assumption); (case kd => ktr_room); (case ku => ktr_units)); (intro v9 n9 h9 tk9 p9 F9 N9; obtain ⟨wo9, t9, vs9, m9, e9, d9a, d9b, e8, p9'⟩ := p9; subst v9; subst n9); (try dsimp only); (try k_sweep); (try k_fold)))
local macro_rules | `(tactic| walk_at "call ref") => `(tactic| ((with_reducible show wpAny _ _ (call (Value.ref 174) _) _ _ _); k_dflt (refine' Tell.use (worth_tell _ _ _ _ _ (by assumption) ?kH) ?k1 ?k2 ?k3 ?k4 ?k5 ?kK ?kd ?ku ?_; (case k1 => k_asm); (case k2 => k_asm); (case k3 => k_asm); (case k4 => k_asm); (case k5 => k_asm); (case kH => k_all); (case kK => first | exact rfl | assumption); (case kd => ktr_room); (case ku => ktr_units)); (intro v9 n9 h9 tk9 p9 F9 N9; obtain ⟨wo9, t9, vs9, m9, e9, d9a, d9b, e8, p9'⟩ := p9; subst v9; subst n9); (try dsimp only); (try k_sweep); (try k_fold)))
local macro_rules | `(tactic| walk_at "callWith") => `(tactic| ((with_reducible refine callWith_method1 ?_ ?h1 ?h2); (case h1 => (simp only [starEach]; done)); (case h2 => k_dflt (exact rfl))))
local macro_rules | `(tactic| walk_at "subscriptTail") => `(tactic| ((with_reducible show wpAny _ _ (subscriptTail (Expr.Tuple _ _ _) _ _ _) _ _ _); with_reducible refine stop ?_))
noncomputable def PlanOk : Kd → B → Prop
  | .atom, w => w ∈ ([[97], [98, 45, 49], [233], [61, 63]] : List B)
  | .sign, w => w ∈ ([[44], [64], [92], [46], [60]] : List B)
  | _, w => w.length ≤ 4 ∧ ∀ c ∈ w, c ∈ worthTab
theorem atom_pick {t0 t1 t2 t3 : Tok} {v : Value} (h : v ∈ [Value.bytes #[97] t0, .bytes #[98, 45, 49] t1, .bytes #[233] t2, .bytes #[61, 63] t3]) : ∃ wo t, PlanOk .atom wo ∧ v = .bytes (List.toArray wo) t := by
  simp only [List.mem_cons, List.not_mem_nil, or_false] at h
  rcases h with rfl | rfl | rfl | rfl
  · exact ⟨[97], _, .head _, rfl⟩
  · exact ⟨[98, 45, 49], _, .tail _ (.head _), rfl⟩
  · exact ⟨[233], _, .tail _ (.tail _ (.head _)), rfl⟩
  · exact ⟨[61, 63], _, .tail _ (.tail _ (.tail _ (.head _))), rfl⟩
theorem sign_pick {t0 t1 t2 t3 t4 : Tok} {v : Value} (h : v ∈ [Value.bytes #[44] t0, .bytes #[64] t1, .bytes #[92] t2, .bytes #[46] t3, .bytes #[60] t4]) : ∃ wo t, PlanOk .sign wo ∧ v = .bytes (List.toArray wo) t := by
  simp only [List.mem_cons, List.not_mem_nil, or_false] at h
  rcases h with rfl | rfl | rfl | rfl | rfl
  · exact ⟨[44], _, .head _, rfl⟩
  · exact ⟨[64], _, .tail _ (.head _), rfl⟩
  · exact ⟨[92], _, .tail _ (.tail _ (.head _)), rfl⟩
  · exact ⟨[46], _, .tail _ (.tail _ (.tail _ (.head _))), rfl⟩
  · exact ⟨[60], _, .tail _ (.tail _ (.tail _ (.tail _ (.head _)))), rfl⟩
theorem kind_pick {t0 t1 t2 : Tok} {v : Value} (h : v ∈ [Value.str (Str.ofString "quoted") t0, .str (Str.ofString "literal") t1, .str (Str.ofString "comment") t2]) : ∃ (kd : Kd) (t : Tok), (∀ w, (w.length ≤ 4 ∧ ∀ c ∈ w, c ∈ worthTab) → PlanOk kd w) ∧ v = .str kd.str t := by
  simp only [List.mem_cons, List.not_mem_nil, or_false] at h
  rcases h with rfl | rfl | rfl
  · exact ⟨.quoted, _, fun _ h => h, rfl⟩
  · exact ⟨.literal, _, fun _ h => h, rfl⟩
  · exact ⟨.comment, _, fun _ h => h, rfl⟩
theorem token_law_tell (w : World) (rest : List (Addr × Obj)) (lp : Addr) (vs : List Value) (n : Nat) (hp : PoolOk vs) (hne : ∀ p ∈ rest, p.1 ≠ lp) :
    Tell w ((lp, listOf vs.toArray n) :: rest) 181 [.ref lp] 5 48 (fun v news' => ∃ (q : Addr) (nq : Nat) (kd : Kd) (wo : B) (t1 t2 : Tok) (vs' : List Value) (n' : Nat), v = .ref q ∧ PlanOk kd wo ∧ (∀ p ∈ rest, p.1 ≠ q) ∧ news' = (q, tup2 (.str kd.str t1) (.bytes wo.toArray t2) nq) :: (lp, listOf vs'.toArray n') :: rest ∧ PoolOk vs') := by
  unfold Tell
  intro mean mg mb dp un gd cn cs a ccd cl' outer A₀ base h₀ L m s Q E Bw F X N T hk hd hu hret
  refine wpAny_call ?_
  k_dflt cell_enter
  k_steps
  · refine unstop ?_
    (with_reducible rename News _ _ _ _ => N4)
    (rename Dig _ 4 => hd4)
    have hd4a := hd4.lo
    have hd4b := hd4.hi
    k_dflt (refine' my_pick N4 (.tail _ (.head _)) ?p0 ?p1 ?pz ?_; (case p0 => omega); (case p1 => (simp only [List.length_cons, List.length_nil]; omega)); (case pz => simp))
    intro v hv
    obtain ⟨wo, tc, hc, rfl⟩ := atom_pick hv
    clear hv
    k_steps
    (rename _ ∧ _ ∧ AllLt _ rest => l9)
    have hfr := fun p hp => Nat.ne_of_lt (allLt_mem l9.2.2 p hp)
    exact fin_ret hret (_ :: _ :: rest) (by assumption) (by assumption) news_skip23 ⟨_, _, .atom, wo, _, _, _, _, rfl, hc, hfr, rfl, by assumption⟩
  · refine unstop ?_
    (with_reducible rename News _ _ _ _ => N4)
    (rename Dig _ 5 => hd4)
    have hd4a := hd4.lo
    have hd4b := hd4.hi
    k_dflt (refine' my_pick N4 (.tail _ (.head _)) ?p0 ?p1 ?pz ?_; (case p0 => omega); (case p1 => (simp only [List.length_cons, List.length_nil]; omega)); (case pz => simp))
    intro v hv
    obtain ⟨wo, tc, hc, rfl⟩ := sign_pick hv
    clear hv
    k_steps
    (rename _ ∧ _ ∧ AllLt _ rest => l9)
    have hfr := fun p hp => Nat.ne_of_lt (allLt_mem l9.2.2 p hp)
    exact fin_ret hret (_ :: _ :: rest) (by assumption) (by assumption) news_skip23 ⟨_, _, .sign, wo, _, _, _, _, rfl, hc, hfr, rfl, by assumption⟩
  · refine unstop ?_
    (with_reducible rename News _ _ _ _ => N4)
    (rename Dig _ 6 => hd4)
    have hd4a := hd4.lo
    have hd4b := hd4.hi
    k_dflt (refine' my_pick N4 (.head _) ?p0 ?p1 ?pz ?_; (case p0 => omega); (case p1 => (simp only [List.length_cons, List.length_nil]; omega)); (case pz => simp))
    intro v hv
    obtain ⟨kd, tc, hc, rfl⟩ := kind_pick hv
    clear hv
    k_steps
    (rename _ ∧ _ ∧ AllLt _ rest => l9)
    have hfr := fun p hp => Nat.ne_of_lt (allLt_mem l9.2.2 p hp)
    exact fin_ret hret (_ :: _ :: rest) (by assumption) (by assumption) news_skip23 ⟨_, _, kd, _, _, _, _, _, rfl, hc _ ⟨by assumption, by assumption⟩, hfr, rfl, by assumption⟩
noncomputable def planD (x : Kd × B) : Dat := .tuple [.str x.1.str, .bytes x.2.toArray]
theorem plan_in {q : Addr} {kd : Kd} {wo : B} {n : Nat} {t2 t3 : Tok} {L : List (Addr × Obj)} (h : (q, tup2 (.str kd.str t2) (.bytes wo.toArray t3) n) ∈ L) : DatIn L (.ref q) (planD (kd, wo)) :=
  .tuple h (.cons (.str _ _) (.cons (.bytes _ _) .nil))
theorem plan_turn {I C D Dp q c : Addr} {oI oC oD op oq oc : Obj} {objs : List (Addr × Obj)} : ∀ p ∈ (I, oI) :: (C, oC) :: (D, oD) :: ((Dp, op) :: (((q, oq) :: objs) ++ [(c, oc)])), p ∈ (q, oq) :: (Dp, op) :: (I, oI) :: (C, oC) :: (D, oD) :: (objs ++ [(c, oc)]) := fun p hp => by
  simp only [List.cons_append, List.mem_cons, List.mem_append] at hp ⊢
  rcases hp with h | h | h | h | h | h | h
  · exact .inr (.inr (.inl h))
  · exact .inr (.inr (.inr (.inl h)))
  · exact .inr (.inr (.inr (.inr (.inl h))))
  · exact .inr (.inl h)
  · exact .inl h
  · exact .inr (.inr (.inr (.inr (.inr (.inl h)))))
  · exact .inr (.inr (.inr (.inr (.inr (.inr h)))))
theorem plan_snoc {plan : List (Kd × B)} {kd : Kd} {wo : B} (hpk : ∀ p ∈ plan, PlanOk p.1 p.2) (h : PlanOk kd wo) : ∀ p ∈ plan ++ [(kd, wo)], PlanOk p.1 p.2 := fun p hp => by
  rcases List.mem_append.mp hp with hp | hp
  · exact hpk p hp
  · rw [List.mem_singleton.mp hp]; exact h
theorem plan_dat {objs : List (Addr × Obj)} {ys : List Value} {plan : List (Kd × B)} {q : Addr} {kd : Kd} {wo : B} {n : Nat} {t2 t3 : Tok} (h : DatAll objs ys (plan.map planD)) :
    DatAll ((q, tup2 (.str kd.str t2) (.bytes wo.toArray t3) n) :: objs) (ys ++ [.ref q]) ((plan ++ [(kd, wo)]).map planD) := by
  rw [List.map_append]
  exact DatAll.append (h.mono fun p hp => .tail _ hp) (.one (plan_in (.head _)))
theorem len_snoc {α : Type} {l : List α} {a : α} {i : Nat} (h : l.length = i) : (l ++ [a]).length = i + 1 := by rw [List.length_append, h]; rfl
end
theorem fresh_H4 : ite True True True := by
  try (walk1; fail)
  w_top off
  exact trivial
section
noncomputable def Kd.body : Kd → Bool
  | .atom => false
  | .sign => false
  | _ => true
section
variable {prog : Program} {w : World} {A : Around} {E : Value → Shared → Prop} {s : Shared} {h₀ : Heap} {L D : Addr} {news : List (Addr × Obj)} {n : Nat} {t t1 t2 : Tok} {kd : Kd}
theorem my_inAS {Q : Value → Shared → Prop} (N : News h₀ L s.heap news) (hm : (D, ({ cls := .type "tuple", data := .seq [Value.str (Str.ofString "atom") t1, .str (Str.ofString "sign") t2].toArray n } : Obj)) ∈ news)
    (h : Q (.bool (!kd.body)) s) : wpAny (model prog w) A (compareOp .In (.str kd.str t) (.ref D)) Q E s := by
  refine in_tuple_strs (ys := [Str.ofString "atom", Str.ofString "sign"]) ⟨_, (N _ hm).1, rfl, n, rfl⟩ (.cons _ _ (.cons _ _ .nil)) ?_
  have e : ([Str.ofString "atom", Str.ofString "sign"].any (· == kd.str)) = !kd.body := by cases kd <;> decide
  rw [e]
  exact h
theorem my_notinAS {Q : Value → Shared → Prop} (N : News h₀ L s.heap news) (hm : (D, ({ cls := .type "tuple", data := .seq [Value.str (Str.ofString "atom") t1, .str (Str.ofString "sign") t2].toArray n } : Obj)) ∈ news)
    (h : Q (.bool kd.body) s) : wpAny (model prog w) A (compareOp .NotIn (.str kd.str t) (.ref D)) Q E s := by
  refine notin_tuple_strs (ys := [Str.ofString "atom", Str.ofString "sign"]) ⟨_, (N _ hm).1, rfl, n, rfl⟩ (.cons _ _ (.cons _ _ .nil)) ?_
  have e : (!([Str.ofString "atom", Str.ofString "sign"].any (· == kd.str))) = kd.body := by cases kd <;> decide
  rw [e]
  exact h
end
local macro_rules | `(tactic| walk_at "compareOp In str ref") => `(tactic| (k_here; (with_reducible show wpAny _ _ (compareOp CmpOp.In (Value.str (Kd.str _) _) (Value.ref _)) _ _ _); k_dflt (refine' my_inAS ?N ?m ?_; (case N => k_asm); (case m => k_mem))))
noncomputable def opB : Kd → B
  | .literal => [91]
  | .comment => [40]
  | _ => [34]
noncomputable def clB : Kd → B
  | .literal => [93]
  | .comment => [41]
  | _ => [34]
noncomputable def barOf : Kd → B
  | .literal => barL
  | .comment => barC
  | _ => barQ
theorem shown_body (k : Kd) (w : B) (h : k.body = true) : shownB k w = opB k ++ esc (barOf k) w ++ clB k := by
  cases k with
  | atom => cases h
  | sign => cases h
  | quoted => simp [shownB, opB, clB, barOf]
  | literal => simp [shownB, opB, clB, barOf]
  | comment => simp [shownB, opB, clB, barOf]
theorem kind_item (k : Kd) (hb : k.body = true) {h₀ h : Heap} {Lx : Addr} {rest : List (Addr × Obj)} {D1 D2 D3 : Addr} {t1 t2 t3 t4 t5 t6 t7 t8 t9 : Tok} {n1 n2 n3 : Nat}
    (N : News h₀ Lx h ((D3, tup3 (.bytes #[40] t7) (.bytes #[41] t8) (.bytes #[40, 41, 92] t9) n3) :: (D2, tup3 (.bytes #[91] t4) (.bytes #[93] t5) (.bytes #[91, 93, 92] t6) n2) :: (D1, tup3 (.bytes #[34] t1) (.bytes #[34] t2) (.bytes #[34, 92] t3) n1) :: rest)) :
    ∃ (D : Addr) (u1 u2 u3 : Tok) (n : Nat), (∀ a b c, valueAt (strPairs [(.str (Str.ofString "quoted") a, .ref D1), (.str (Str.ofString "literal") b, .ref D2), (.str (Str.ofString "comment") c, .ref D3)]) k.str = some (.ref D)) ∧
      News h₀ Lx h ((D, tup3 (.bytes (opB k).toArray u1) (.bytes (clB k).toArray u2) (.bytes (barOf k).toArray u3) n) :: rest) := by
  cases k with
  | atom => cases hb
  | sign => cases hb
  | quoted => exact ⟨D1, t1, t2, t3, n1, fun _ _ _ => by first | rfl | kernel_rfl, kst_newsOf N fun _ h => .tail _ (.tail _ h)⟩
  | literal => exact ⟨D2, t4, t5, t6, n2, fun _ _ _ => by first | rfl | kernel_rfl, kst_newsOf N fun p hp => by
    rcases List.mem_cons.mp hp with rfl | hp
    · exact .tail _ (.head _)
    · exact .tail _ (.tail _ (.tail _ hp))⟩
  | comment => exact ⟨D3, t7, t8, t9, n3, fun _ _ _ => by first | rfl | kernel_rfl, kst_newsOf N fun p hp => by
    rcases List.mem_cons.mp hp with rfl | hp
    · exact .head _
    · exact .tail _ (.tail _ (.tail _ hp))⟩
local macro_rules | `(tactic| walk_at "subscriptTail") => `(tactic| ((with_reducible show wpAny _ _ (subscriptTail (Expr.Dict _ _ _) _ _ _) _ _ _); with_reducible refine stop ?_))
local macro_rules | `(tactic| walk_at "eval Dict") => `(tactic| (k_here; k_dflt (refine' kdn_str ?q ?F ?N ?b ?a ?l ?e ?n ?_; (case q => rfl); (case F => k_asm); (case N => k_asm); (case b => exact Top.nolimit (by k_asm)); (case a => rfl); (case l => rfl); (case e => exact List.cons_ne_nil _ _); (case n => exact Nat.le_of_ble_eq_true rfl)); intro d' h' o' F' N' l1 lo' hd'))
local macro_rules | `(tactic| walk_at "KdnMade") => `(tactic| with_reducible refine stop ?_)
section
variable {prog : Program} {w : World} {A : Around} {E : Value → Shared → Prop} {s : Shared} {h₀ : Heap} {L l : Addr} {m : Str → Option Value} {news : List (Addr × Obj)} {n : Nat}
theorem my_bytes1 {c : UInt8} {t : Tok} {Q : Value → Shared → Prop} (F : Fr h₀ L s.heap m) (N : News h₀ L s.heap news) (hm : (l, listOf #[.int (c.toNat : Int) t] n) ∈ news) (hh : A.handled = none)
    (h : ∀ t' h' k, Fr h₀ L h' m → News h₀ L h' news → Q (.bytes [c].toArray t') { s with heap := h', toks := k }) : wpAny (model prog w) A (call (.type "bytes") [.ref l]) Q E s :=
  my_bytes (items := [(c, t)]) F N hm rfl (by simp) hh h
end
local macro_rules | `(tactic| walk_at "call type:bytes") => `(tactic| (k_here; (with_reducible show wpAny _ _ (call (Value.type "bytes") [Value.ref _]) _ _ _); k_dflt (refine' my_bytes1 ?F ?N ?m ?h ?_; (case F => k_asm); (case N => k_asm); (case m => exact .head _); (case h => rfl)); intro t' h' tk' F' N'; (try k_sweep)))
theorem shown_law_tell (w : World) (news : List (Addr × Obj)) (q : Addr) (k : Kd) (wo : B) (n : Nat) (t1 t2 : Tok) (hm : (q, tup2 (.str k.str t1) (.bytes wo.toArray t2) n) ∈ news) (hz : wo.length ≤ 1000) :
    Tell w news 188 [.ref q] 4 32 (fun v news' => news' = news ∧ ∃ t, v = .bytes (shownB k wo).toArray t) := by
  unfold Tell
  intro mean mg mb dp un gd cn cs a ccd cl' outer A₀ base h₀ L m s Q E Bw F X N T hk hd hu hret
  refine wpAny_call ?_
  k_dflt cell_enter
  by_cases hb : k.body = false
  · have hb' : (!k.body) = true := by rw [hb]; rfl
    have hsh : shownB k wo = wo := by cases k <;> first | rfl | cases hb
    k_steps
    exact fin_ret hret news (by assumption) (by assumption) (fun _ h => .tail _ h) ⟨rfl, _, by rw [hsh]⟩
  · have hb1 : k.body = true := by simpa using hb
    have hb' : (!k.body) = false := by rw [hb1]; rfl
    k_steps
    refine unstop ?_
    (rename ∀ p ∈ _ :: news, _ => hlt)
    k_dflt (refine' kdn_made_str ?F ?N (.tail ?n1 (.tail ?n2 (.tail ?n3 (.head (fun p hp => Nat.ne_of_lt (hlt p hp)))))) ?d ?k ?n ?_; (case F => k_asm); (case N => k_asm); (case n1 => k_ne); (case n2 => k_ne); (case n3 => k_ne); (case d => k_asm); (case k => rfl); (case n => exact of_decide_eq_true (by first | rfl | kernel_rfl!)); intro h' o' F' N' hd'; (try dsimp only at N'))
    k_steps
    refine unstop ?_
    (with_reducible rename News _ _ _ _ => N4)
    obtain ⟨D, u1, u2, u3, nD, hval, N5⟩ := kind_item k hb1 N4
    k_dflt (refine kdt_tail N5 (.tail _ (.head _)) hd' (kdt_getItem N5 (.tail _ (.head _)) hd' (strKind_is _ _ _ _) (hval _ _ _) ?_))
    clear N4
    try dsimp only
    repeat' (first | (k_unfold; (try dsimp only)) | (walk1; (try dsimp only)))
    (with_reducible rename Fr _ _ _ _ => F1)
    (with_reducible rename News _ _ _ _ => N1)
    refine unstop ?_
    (with_unfolding_all refine' For_invVF F1 ?k1 ?k2 ?_; (case k1 => exact rfl); (case k2 => exact rfl))
    k_steps
    refine unstop ?_
    have hop : (opB k).length = 1 := by cases k <;> rfl
    have hcl : (clB k).length = 1 := by cases k <;> rfl
    have hle : ∀ i, (opB k ++ esc (barOf k) (wo.take i)).length ≤ 3000 := fun i => by
      have h1 := esc_le (barOf k) (wo.take i)
      have h2 : (wo.take i).length ≤ wo.length := by simp; omega
      rw [List.length_append, hop]
      omega
    refine my_bytesFor (b := wo) (fun i m nx => nx = news ∧ ∃ (t4 t5 t6 : Tok), AllAt m [(Str.ofString "worth", .bytes wo.toArray t2), (Str.ofString "closing", .bytes (clB k).toArray t4), (Str.ofString "barred", .bytes (barOf k).toArray t5), (Str.ofString "found", .bytes (opB k ++ esc (barOf k) (wo.take i)).toArray t6)])
      rfl F1 (kst_newsOf N1 fun p hp => ?_) ⟨rfl, u2, u3, u1, rfl, rfl, rfl, ?_, trivial⟩ ?_ ?_
    · exact .tail _ (.tail _ (.tail _ hp))
    · simp [esc]
    · rintro i c tc m₁ nx h₁ tk₁ own hic hoff ⟨hnx, t4, t5, t6, hm'⟩ F₁ N₁
      subst nx
      have F₂ := ats F₁ (ps := [(Str.ofString "code", .int (c.toNat : Int) tc), (Str.ofString "worth", .bytes wo.toArray t2), (Str.ofString "closing", .bytes (clB k).toArray t4), (Str.ofString "barred", .bytes (barOf k).toArray t5), (Str.ofString "found", .bytes (opB k ++ esc (barOf k) (wo.take i)).toArray t6)]) ⟨rfl, hm'.1, hm'.2.1, hm'.2.2.1, hm'.2.2.2.1, trivial⟩
      clear F₁ F1 N1
      have hl3 := hle i
      have hl4 := hle i
      rw [List.length_append] at hl4
      have hlt : i < wo.length := (List.getElem?_eq_some_iff.mp hic).1
      have htk : wo.take (i + 1) = wo.take i ++ [c] := by rw [List.take_add_one, hic]; rfl
      by_cases hc : (barOf k).contains c = true
      · have heq : opB k ++ esc (barOf k) (wo.take (i + 1)) = ((opB k ++ esc (barOf k) (wo.take i)) ++ [92]) ++ [c] := by
          rw [htk, esc_append, esc_one, if_pos hc]
          simp
        k_steps
        (with_reducible rename Fr _ _ _ _ => F3)
        (with_reducible rename News _ _ _ _ => N3)
        exact InvEndG.intro (nx := news) F3 N3 ⟨rfl, t4, t5, _, rfl, rfl, rfl, (by rw [heq]; exact rfl), trivial⟩ (by exact hoff) (fun p hp => .tail _ (List.mem_append_left _ hp)) (fun p hp => .tail _ (List.mem_append_right _ hp))
      · have hc' : (barOf k).contains c = false := by simpa using hc
        have heq : opB k ++ esc (barOf k) (wo.take (i + 1)) = ((opB k ++ esc (barOf k) (wo.take i)) ++ []) ++ [c] := by
          rw [htk, esc_append, esc_one, if_neg hc]
          simp
        k_steps
        (with_reducible rename Fr _ _ _ _ => F3)
        (with_reducible rename News _ _ _ _ => N3)
        exact InvEndG.intro (nx := news) F3 N3 ⟨rfl, t4, t5, _, rfl, rfl, rfl, (by rw [heq]; exact rfl), trivial⟩ (by exact hoff) (fun p hp => .tail _ (List.mem_append_left _ hp)) (fun p hp => .tail _ (List.mem_append_right _ hp))
    · rintro m₁ nx h₁ tk₁ ⟨hnx, t4, t5, t6, hm'⟩ F₁ N₁
      subst nx
      have F₂ := ats F₁ hm'
      clear F₁ F1 N1
      have hl3 := hle wo.length
      have hl4 := hle wo.length
      rw [List.length_append] at hl4
      k_steps
      exact fin_ret hret news (by assumption) (by assumption) (fun _ h => h) ⟨rfl, _, by rw [List.take_length, shown_body k wo hb1]⟩
end
theorem fresh_H5 : ite True True True := by
  try (walk1; fail)
  w_top off
  exact trivial
section
theorem name_it {α : Type} (P : α → Prop) {a : α} (h : P a) : ∃ b, b = a ∧ P b := ⟨a, rfl, h⟩
theorem plan_len {kd : Kd} {w : B} (h : PlanOk kd w) : w.length ≤ 4 := by
  cases kd with
  | atom =>
    have hall : ∀ w ∈ ([[97], [98, 45, 49], [233], [61, 63]] : List B), w.length ≤ 4 := by decide
    exact hall w h
  | sign =>
    have hall : ∀ w ∈ ([[44], [64], [92], [46], [60]] : List B), w.length ≤ 4 := by decide
    exact hall w h
  | quoted => exact h.1
  | literal => exact h.1
  | comment => exact h.1
theorem lay_le : ∀ (a : List PTk) (pv : Option Kd), (∀ p ∈ a, PlanOk p.1 p.2) → (lay pv a).length ≤ 11 * a.length
  | [], _, _ => Nat.zero_le _
  | (k, w) :: r, pv, h => by
    have h1 := lay_le r (some k) fun p hp => h p (.tail _ hp)
    have h2 := shown_le k w
    have h3 := plan_len (h (k, w) (.head _))
    have h4 : (gap pv k).length ≤ 1 := by unfold gap; split <;> simp
    show (gap pv k ++ (shownB k w ++ lay (some k) r)).length ≤ _
    simp only [List.length_append, List.length_cons] at *
    omega
theorem plan_at {L : List (Addr × Obj)} {ys : List Value} {plan : List (Kd × B)} (h : DatAll L ys (plan.map planD)) {i : Nat} (hi : i < plan.length) :
    ∃ q n t2 t3, ys[i]? = some (.ref q) ∧ (q, tup2 (.str (plan[i]).1.str t2) (.bytes (plan[i]).2.toArray t3) n) ∈ L := by
  obtain ⟨v, hv, hd⟩ := h.get (k := i) (by simpa using hi)
  rw [List.getElem_map] at hd
  unfold planD at hd
  cases hd with
  | tuple hm hall =>
    cases hall with
    | cons h1 r1 =>
      cases r1 with
      | cons h2 r2 =>
        cases r2
        cases h1
        cases h2
        exact ⟨_, _, _, _, hv, hm⟩
theorem offs_snoc : ∀ (a : List PTk) (pv : Option Kd) (j : Nat) (x : PTk), offs pv j (a ++ [x]) = offs pv j a ++ [(x.1, x.2, j + (lay pv a).length + (gap (lastOr pv a) x.1).length)]
  | [], pv, j, x => by simp [offs, lay, lastOr]
  | (k, w) :: r, pv, j, x => by
    show (k, w, j + (gap pv k).length) :: offs (some k) (j + (gap pv k).length + (shownB k w).length) (r ++ [x]) = _
    rw [offs_snoc r]
    show _ = ((k, w, j + (gap pv k).length) :: offs (some k) (j + (gap pv k).length + (shownB k w).length) r) ++ _
    have e : (lay pv ((k, w) :: r)).length = (gap pv k).length + ((shownB k w).length + (lay (some k) r).length) := by
      show (gap pv k ++ (shownB k w ++ lay (some k) r)).length = _
      rw [List.length_append, List.length_append]
    have e2 : lastOr pv ((k, w) :: r) = lastOr (some k) r := rfl
    rw [e, e2, List.cons_append]
    congr 3
    simp only [Prod.mk.injEq, true_and]
    omega
theorem toks_dat {L : List (Addr × Obj)} {vs : List Value} {plan : List PTk} {i : Nat} {D : Addr} {kd : Kd} {wo : B} {n off : Nat} {t2 t3 t4 : Tok} (hi : i < plan.length) (hk : plan[i] = (kd, wo)) (h : DatAll L vs ((offs none 0 (plan.take i)).map tokD))
    (ho : off = (lay none (plan.take i)).length + (gap (lastOr none (plan.take i)) kd).length) :
    DatAll ((D, tup3 (.str kd.str t2) (.bytes wo.toArray t3) (.int (off : Int) t4) n) :: L) (vs ++ [.ref D]) ((offs none 0 (plan.take (i + 1))).map tokD) := by
  have e : plan.take (i + 1) = plan.take i ++ [(kd, wo)] := by rw [List.take_add_one, List.getElem?_eq_getElem hi, hk]; rfl
  rw [e, offs_snoc, List.map_append, Nat.zero_add]
  subst ho
  exact DatAll.append (h.mono fun p hp => .tail _ hp) (.one (tok_in (x := (kd, wo, _)) (.head _)))
theorem lay_turn {plan : List PTk} {i : Nat} {kd : Kd} {wo : B} (hi : i < plan.length) (hk : plan[i] = (kd, wo)) : lay none (plan.take (i + 1)) = lay none (plan.take i) ++ (gap (lastOr none (plan.take i)) kd ++ shownB kd wo) := by
  have e : plan.take (i + 1) = plan.take i ++ [(kd, wo)] := by rw [List.take_add_one, List.getElem?_eq_getElem hi, hk]; rfl
  rw [e, lay_snoc]
theorem start_sub {D l Dl Dp c : Addr} {o1 o2 o3 o4 oc : Obj} {objs : List (Addr × Obj)} : ∀ p ∈ (l, o2) :: ([] ++ ((Dl, o3) :: objs)), p ∈ (D, o1) :: (l, o2) :: (Dl, o3) :: (Dp, o4) :: (objs ++ [(c, oc)]) := fun p hp => by
  simp only [List.nil_append, List.mem_cons, List.mem_append] at hp ⊢
  rcases hp with h | h | h
  · exact .inr (.inl h)
  · exact .inr (.inr (.inl h))
  · exact .inr (.inr (.inr (.inr (.inl h))))
theorem turn_sub {l D : Addr} {ol oD : Obj} {toks base own : List (Addr × Obj)} : ∀ p ∈ (l, ol) :: (((D, oD) :: toks) ++ base), p ∈ (l, ol) :: (D, oD) :: (toks ++ base ++ own) := fun p hp => by
  simp only [List.cons_append, List.mem_cons, List.mem_append] at hp ⊢
  rcases hp with h | h | h | h
  · exact .inl h
  · exact .inr (.inl h)
  · exact .inr (.inr (.inl (.inl h)))
  · exact .inr (.inr (.inl (.inr h)))
theorem own_off {l D : Addr} {ol ol' oD : Obj} {toks base own : List (Addr × Obj)} (h : OwnOff own (((l, ol) :: (toks ++ base)).map (·.1))) (hD : AllLt D (toks ++ base ++ own)) : OwnOff own (((l, ol') :: (((D, oD) :: toks) ++ base)).map (·.1)) := fun p hp b hb => by
  have h1 := allLt_mem hD p (List.mem_append_right _ hp)
  simp only [List.cons_append, List.map_cons, List.mem_cons] at hb
  rcases hb with rfl | rfl | hb
  · exact h p hp _ (.head _)
  · exact Nat.ne_of_lt h1
  · exact h p hp b (.tail _ hb)
end
theorem fresh_H6 : ite True True True := by
  try (walk1; fail)
  w_top off
  exact trivial
section
open PyProof.Rows.LCg
section
variable {prog : Program} {w : World} {A : Around} {E : Value → Shared → Prop} {h₀ : Heap} {L : Addr} {m : Str → Option Value} {env : Env}
/-- what a comprehension over a list of pairs, with one test, has to show of a turn: the ledger stays -/
noncomputable def PairTurn (prog : Program) (w : World) (A : Around) (h₀ : Heap) (L : Addr) (m : Str → Option Value) (env : Env) (c elt : Expr) (a b : Str) (scope : Scope) (cl : List (Str × Addr)) (s : Shared) (news : List (Addr × Obj)) (its : Array Value) (J : Nat → List Value → Prop) : Prop :=
  ∀ i v ys, its[i]? = some v → J i ys → ∃ (t : Addr) (x y : Value) (nt : Nat), v = .ref t ∧ (t, tup2 x y nt) ∈ news ∧
    ∀ I oI C oC D m₂ h tk (E' : Value → Shared → Prop), NsObj oC m₂ → m₂ a = some x → m₂ b = some y → Fr h₀ L h m → News h₀ L h ((I, oI) :: (C, oC) :: (D, lst ys) :: news) → Off3 I C D news → ((@Ne Nat I C) ∧ (@Ne Nat I D) ∧ (@Ne Nat C D)) →
      wpAny (model prog w) A (isTrue c (compEnvC scope cl C env) (eval c (compEnvC scope cl C env))) (fun ok s₃ => if ok = true then
        wpAny (model prog w) A (eval elt (compEnvC scope cl C env)) (CompEnd h₀ L m { s with heap := h, toks := tk } I oI C oC D (lst ys) (fun _ => True) (fun y news' => news' = news ∧ J (i + 1) (ys ++ [y]))) E' s₃
        else CompEnd h₀ L m { s with heap := h, toks := tk } I oI C oC D (lst ys) (fun _ => True) (fun _ news' => news' = news ∧ J (i + 1) ys) Value.none s₃) E' { s with heap := h, toks := tk }
theorem heads {I C D : Addr} {oI oC oD : Obj} {h : Heap} {news : List (Addr × Obj)} (hI : h.get? I = some oI ∧ I ≠ L ∧ h₀.get? I = none) (hC : h.get? C = some oC ∧ C ≠ L ∧ h₀.get? C = none) (N : News h₀ L h ((D, oD) :: news)) :
    News h₀ L h ((I, oI) :: (C, oC) :: (D, oD) :: news) := List.forall_mem_cons.mpr ⟨hI, List.forall_mem_cons.mpr ⟨hC, N⟩⟩
theorem ladder {I C D : Addr} {news : List (Addr × Obj)} {oD : Obj} (off : Off3 I C D news) (h1 : D ≠ I) (h2 : D ≠ C) : (∀ p ∈ (D, oD) :: news, p.1 ≠ I) ∧ (∀ p ∈ (D, oD) :: news, p.1 ≠ C) :=
  ⟨List.forall_mem_cons.mpr ⟨h1, fun p hp => (off.mem p hp).1⟩, List.forall_mem_cons.mpr ⟨h2, fun p hp => (off.mem p hp).2.1⟩⟩
theorem pair_loop {elt iter c : Expr} {a b : Str} {pa pb tp : Pos} {kk : Nat} {scope : Scope} {cl : List (Str × Addr)} {pos : Pos} {I C D ax : Addr} {its : Array Value} {k : Nat} {news : List (Addr × Obj)} {J : Nat → List Value → Prop} {s : Shared} {R : Result → Shared → Prop}
    (hh : A.handled = none) (hm : (ax, listOf its k) ∈ news) (hsz : its.size ≤ 16777216) (hkind : scope.kind = .function) (hxa : scope.names.lookup a = some .local) (hxb : scope.names.lookup b = some .local) (hab : ¬ a = b)
    (hI : I ≠ L ∧ h₀.get? I = none) (hC : C ≠ L ∧ h₀.get? C = none) (hD : D ≠ L ∧ h₀.get? D = none) (hIC : I ≠ C) (hID : I ≠ D) (hCD : C ≠ D) (off : Off3 I C D news) (T : PairTurn prog w A h₀ L m env c elt a b scope cl s news its J)
    (fin : ∀ h tk ys m', J its.size ys → Fr h₀ L h m → News h₀ L h ((D, lst ys) :: news) → h.Ns C m' → R (.ok .next) { s with heap := h, toks := tk })
    (h : Heap) (tk : Nat) (m₁ : Str → Option Value) (hit : h.IsListIter I ax 0) (F : Fr h₀ L h m) (N : News h₀ L h ((D, lst []) :: news)) (hn : h.Ns C m₁) (hJ : J 0 []) :
    codeAny (model prog w) A (.compLoop (.ListComp elt [⟨.Tuple [.Name a pa, .Name b pb] kk tp, iter, [c], 0⟩] scope pos) 0 (.ref I) (.ref D) (compEnvC scope cl C env)) R { s with heap := h, toks := tk } := by
  have hax := off.mem _ hm
  have W := Walks.list (prog := prog) (w := w) hh I ax hax.1 its
  refine kct_loop (fun q s' => ∃ h' tk' i ys m', s' = { s with heap := h', toks := tk' } ∧ i ≤ its.size ∧ q = its.size + 1 - i ∧ ys.length ≤ i ∧ h'.IsListIter I ax i ∧ Fr h₀ L h' m ∧ h'.Ns C m' ∧ News h₀ L h' ((D, lst ys) :: news) ∧ J i ys) ?_ (its.size + 1)
    ⟨h, tk, 0, [], _, rfl, Nat.zero_le _, rfl, Nat.le_refl _, hit, F, hn, N, hJ⟩
  rintro q s' ⟨h', tk', i, ys, m', rfl, hi, rfl, hyl, hit', F', hn', N', hJ'⟩
  have hl : ∀ g, News h₀ L g ((D, lst ys) :: news) → g.IsList ax its := fun g Ng => ⟨_, (Ng _ (.tail _ hm)).1, rfl, _, rfl⟩
  have lad := ladder (oD := lst ys) off (Ne.symm hID) (Ne.symm hCD)
  by_cases hlt : i < its.size
  · refine W.item i _ _ _ hlt ⟨hit', hl h' N'⟩ fun v h₂ tk₂ hv st₂ hk₂ => ?_
    obtain ⟨t, x, y, nt, rfl, hmt, go⟩ := T i v ys hv hJ'
    have N₂ := news_but N' hk₂ lad.1
    have hCn : h₂.Ns C m' := hn'.at' fun o e => hk₂ _ o (by simpa using Ne.symm hIC) e
    refine wpAny_letOwnedTupleGo_listiter st₂.1 ?_
    refine kcp_assign (env := compEnvC scope cl C env) hh ⟨_, (N₂ _ (.tail _ hmt)).1, rfl, _, rfl⟩ (lookup_relabel_local hxa) (lookup_relabel_local hxb) (by simp [compEnvC, relabel, hkind]) hCn fun h₃ tk₃ hn₃ hs₃ => ?_
    have F₂ : Fr h₀ L h₂ m := fr_but F' hk₂ (Ne.symm hI.1) hI.2
    have N₃ : News h₀ L h₃ ((D, lst ys) :: news) := fun p hp => ⟨hs₃ _ _ (lad.2 p hp) (N₂ p hp).1, (N₂ p hp).2⟩
    have F₃ : Fr h₀ L h₃ m := ⟨F₂.ns.at' fun o e => hs₃ _ o (Ne.symm hC.1) e, fun d o e => hs₃ d o (fun z => by rw [z] at e; have e1 := hC.2; rw [show h₀.get? C = some o from e] at e1; cases e1) (F₂.keep d o e), F₂.above⟩
    obtain ⟨oI, heI, hcI, hdI⟩ := st₂.1
    have heI₃ := hs₃ I oI hIC heI
    obtain ⟨oC, heC, hoC⟩ := ns_obj hn₃
    refine wpAny_mono (go I oI C oC D _ h₃ tk₃ _ hoC (by simp [hab]) (by simp) F₃ (heads ⟨heI₃, hI⟩ ⟨heC, hC⟩ N₃) off ⟨hIC, hID, hCD⟩) (fun ok s₄ h₄ => ?_) fun _ _ e => e
    have back : ∀ {g : Heap} {zs : List Value}, News h₀ L g ((I, oI) :: (C, oC) :: (D, lst zs) :: news) → g.IsListIter I ax (i + 1) ∧ g.Ns C _ ∧ News h₀ L g ((D, lst zs) :: news) := fun N₄ =>
      ⟨⟨oI, (N₄ _ (.head _)).1, hcI, hdI⟩, hoC.ns (N₄ _ (.tail _ (.head _))).1, fun p hp => N₄ p (.tail _ (.tail _ hp))⟩
    cases ok with
    | false =>
      obtain ⟨h₅, tk₅, nx, rfl, F₅, N₅, _, _, rfl, hJ₅⟩ := h₄
      obtain ⟨b1, b2, b3⟩ := back N₅
      exact ⟨its.size + 1 - (i + 1), by omega, h₅, tk₅, i + 1, ys, _, rfl, hlt, rfl, Nat.le_succ_of_le hyl, b1, F₅, b2, b3, hJ₅⟩
    | true =>
      refine wpAny_mono h₄ (fun z s₅ h₅ => ?_) fun _ _ e => e
      obtain ⟨h₅, tk₅, nx, rfl, F₅, N₅, _, _, rfl, hJ₅⟩ := h₅
      obtain ⟨b1, b2, b3⟩ := back N₅
      refine append_at (hsz := by rw [sizeLine_eq]; show ys.toArray.size ≤ _; rw [List.size_toArray]; omega) (b3 _ (.head _)).1 fun h₆ hs₆ hD₆ => ?_
      refine ⟨its.size + 1 - (i + 1), by omega, h₆, tk₅, i + 1, ys ++ [z], _, rfl, hlt, rfl, by rw [List.length_append, List.length_singleton]; exact Nat.succ_le_succ hyl, b1.at fun o e => hs₆.extBut _ _ hID e, F₅.change hs₆ hD.1 hD.2, b2.sameBut hs₆ hCD, ?_, hJ₅⟩
      refine List.forall_mem_cons.mpr ⟨⟨hD₆.trans (congrArg some (lst_snoc ys z)), hD⟩, fun p hp => ⟨hs₆.extBut _ _ (off.mem p hp).2.2 (b3 p (.tail _ hp)).1, (b3 p (.tail _ hp)).2⟩⟩
  · obtain rfl : i = its.size := Nat.le_antisymm hi (Nat.not_lt.mp hlt)
    refine W.done _ _ _ ⟨hit', hl h' N'⟩ fun h₂ tk₂ hk₂ => ?_
    exact fin h₂ tk₂ ys _ hJ' (fr_but F' hk₂ (Ne.symm hI.1) hI.2) (news_but N' hk₂ lad.1) (hn'.at' fun o e => hk₂ _ o (by simpa using Ne.symm hIC) e)
/-- a list comprehension over a list of pairs of the ledger, with one test -/
theorem pair_comp {elt iter c : Expr} {a b : Str} {pa pb tp : Pos} {kk : Nat} {scope : Scope} {cl : List (Str × Addr)} {pos : Pos} {s : Shared} {Q : Value → Shared → Prop}
    (F₀ : Fr h₀ L s.heap m) (hclos : closureFor scope env = pure cl) (hcell : ∀ y ∈ scope.names, y.2 ≠ .cell) (hkind : scope.kind = .function)
    (hnames : ∀ y ∈ scope.names, y.2 = .local → scope.names.lookup y.1 = some .local) (hxa : scope.names.lookup a = some .local) (hxb : scope.names.lookup b = some .local) (hab : ¬ a = b)
    (h : wpAny (model prog w) A (eval iter env) (fun xv s₁ => ∃ ax its k news, ∃ J : Nat → List Value → Prop, xv = .ref ax ∧ A.handled = none ∧ Fr h₀ L s₁.heap m ∧ News h₀ L s₁.heap news ∧ (ax, listOf its k) ∈ news ∧ its.size ≤ 16777216 ∧ J 0 [] ∧
      PairTurn prog w A h₀ L m env c elt a b scope cl s₁ news its J ∧ ∀ ys, J its.size ys → FinE h₀ L m s₁ Q ys news) E s)
    (hs : ∀ x, foldedSetIterable iter env x = pure x := by intro _; rfl) :
    wpAny (model prog w) A (eval (.ListComp elt [⟨.Tuple [.Name a pa, .Name b pb] kk tp, iter, [c], 0⟩] scope pos) env) Q E s := by
  rw [eval_ListComp]
  refine wpAny_comprehension_free (use := none) rfl hs hclos hkind hnames (wpAny_mono h (fun xv s₁ h₁ => ?_) fun _ _ e => e)
  obtain ⟨ax, its, k, news, J, rfl, hh, F, N, hm, hsz, hJ, T, fin⟩ := h₁
  refine wpAny_pyIter_list ⟨_, (N _ hm).1, rfl, _, rfl⟩ ?_
  refine wpAny_newObj_type (wpAny_newFunctionEnv hcell (by intro y hy; simp at hy) (fun g hng hsg => ?_) hkind)
  dsimp only at hng hsg ⊢
  generalize hO : ({ cls := .type "list_iterator", data := .fields #[.ref ax, .int 0 0] } : Obj) = oI at hng hsg ⊢
  have z1 : (s₁.heap.push oI).objs.size = s₁.heap.objs.size + 1 := Heap.size_push _ _
  have z2 : ((s₁.heap.push oI).push (lst [])).objs.size = s₁.heap.objs.size + 2 := by rw [Heap.size_push, z1]
  have hsg' := hsg.extBut
  have up : ∀ d o, s₁.heap.get? d = some o → g.get? d = some o := fun d o e => hsg' d o (by have e1 := Heap.lt_size e; show d ≠ ((s₁.heap.push oI).push (lst [])).objs.size; rw [z2]; exact Nat.ne_of_lt (Nat.lt_of_lt_of_le e1 (Nat.le_add_right _ _))) (Heap.get?_push_of_some _ (Heap.get?_push_of_some _ (Heap.get?_push_of_some _ e)))
  have new₀ : ∀ d, s₁.heap.objs.size ≤ d → h₀.get? d = none := fun d hd => Heap.get?_none_of_le (Nat.le_trans (Nat.le_of_lt (Nat.lt_of_le_of_lt F.above F.ns.lt)) hd)
  have hLlt : L < s₁.heap.objs.size := F.ns.lt
  have big : ∀ d, s₁.heap.objs.size ≤ d → d ≠ L ∧ h₀.get? d = none := fun d hd => ⟨Ne.symm (Nat.ne_of_lt (Nat.lt_of_lt_of_le hLlt hd)), new₀ d hd⟩
  have low : ∀ p ∈ news, p.1 < s₁.heap.objs.size := fun p hp => Heap.lt_size (N p hp).1
  have eI : g.get? s₁.heap.objs.size = some oI := hsg' _ _ (by show s₁.heap.objs.size ≠ ((s₁.heap.push oI).push (lst [])).objs.size; rw [z2]; exact Nat.ne_of_lt (Nat.lt_add_of_pos_right (by decide))) (Heap.get?_push_of_some _ (Heap.get?_push_of_some _ (Heap.get?_push_size _ (by rw [← hO]; rfl))))
  have eD : g.get? (s₁.heap.push oI).objs.size = some (lst []) := hsg' _ _ (by show (s₁.heap.push oI).objs.size ≠ ((s₁.heap.push oI).push (lst [])).objs.size; rw [z2, z1]; exact Nat.ne_of_lt (Nat.lt_succ_self _)) (Heap.get?_push_of_some _ (Heap.get?_push_size _ rfl))
  have loop : ∀ s₃ : Shared, s₃ = { s₁ with heap := g, toks := s₁.toks + ([] : List (Str × Value)).length } → codeAny (model prog w) A (.compLoop (.ListComp elt [⟨.Tuple [.Name a pa, .Name b pb] kk tp, iter, [c], 0⟩] scope pos) 0 (.ref s₁.heap.objs.size) (.ref (s₁.heap.push oI).objs.size) (compEnvC scope cl ((s₁.heap.push oI).push (lst [])).objs.size env))
      (compPost (model prog w) A E none Q (.ref (s₁.heap.push oI).objs.size) ((s₁.heap.push oI).push (lst [])).objs.size) s₃ := by
    rintro s₃ rfl
    refine pair_loop (h₀ := h₀) (L := L) (m := m) (k := k) (J := J) hh hm hsz hkind hxa hxb hab (big _ (Nat.le_refl _)) (big _ (by rw [z2]; exact Nat.le_add_right _ _)) (big _ (by rw [z1]; exact Nat.le_add_right _ _)) (by rw [z2]; exact Nat.ne_of_lt (Nat.lt_add_of_pos_right (by decide))) (by rw [z1]; exact Nat.ne_of_lt (Nat.lt_succ_self _)) (by rw [z1, z2]; exact Ne.symm (Nat.ne_of_lt (Nat.lt_succ_self _)))
      (Off3.of fun p hp => ⟨Nat.ne_of_lt (low p hp), by rw [z2]; exact Nat.ne_of_lt (Nat.lt_of_lt_of_le (low p hp) (Nat.le_add_right _ _)), by rw [z1]; exact Nat.ne_of_lt (Nat.lt_succ_of_lt (low p hp))⟩) T (fun h tk ys m' hj F' N' hn' => ?_) g _ _ ⟨oI, eI, by rw [← hO]; exact ⟨rfl, rfl⟩⟩ (F.keeps up) (List.forall_mem_cons.mpr ⟨⟨eD, big _ (by rw [z1]; exact Nat.le_add_right _ _)⟩, fun p hp => ⟨up _ _ (N p hp).1, (N p hp).2⟩⟩) hng hJ
    have off1 : Off1 (s₁.heap.push oI).objs.size news := Off3.one (I := (s₁.heap.push oI).objs.size) (C := (s₁.heap.push oI).objs.size) (Off3.of fun p hp => by
      have e1 : p.1 ≠ (s₁.heap.push oI).objs.size := by rw [z1]; exact Nat.ne_of_lt (Nat.lt_succ_of_lt (low p hp))
      exact ⟨e1, e1, e1⟩)
    refine ⟨m', hn', fun h'' hs'' => fin ys hj _ h'' tk (F'.change hs'' (big _ (by rw [z2]; exact Nat.le_add_right _ _)).1 (big _ (by rw [z2]; exact Nat.le_add_right _ _)).2) (List.forall_mem_cons.mpr ⟨⟨hs''.extBut _ _ (by rw [z1, z2]; exact Nat.ne_of_lt (Nat.lt_succ_self _)) (N' _ (.head _)).1, (N' _ (.head _)).2⟩, fun p hp => ⟨hs''.extBut _ _ (by rw [z2]; exact Nat.ne_of_lt (Nat.lt_of_lt_of_le (low p hp) (Nat.le_add_right _ _))) (N' p (.tail _ hp)).1, (N' p (.tail _ hp)).2⟩⟩) off1⟩
  exact codeAny_compStart_list (loop _ rfl) (wpAny_pyIter_listiter (l := ax) (i := 0) ⟨oI, eI, by rw [← hO]; exact ⟨rfl, rfl⟩⟩ (loop _ rfl))
end
end
theorem fresh_H7 : ite True True True := by
  try (walk1; fail)
  w_top off
  exact trivial
section
section
variable {prog : Program} {w : World} {A : Around} {E : Value → Shared → Prop} {s : Shared} {h₀ : Heap} {L a b : Addr} {news : List (Addr × Obj)} {n m : Nat}
theorem rcne {a b : Value} {k : Bool} {Q : Value → Shared → Prop} (h : SeqAt.RcNeAt A s a b k) (hq : Q (.bool k) s) : wpAny (model prog w) A (compareOp .NotEq a b) Q E s := h prog w E Q hq
theorem eqAt_bytes (b c : B) (t u : Tok) (h : b = c) : SeqAt.EqAt A s (.bytes b.toArray t) (.bytes c.toArray u) true := fun prog w E Q hq => by
  refine eqBool_bytes ?_
  subst h
  simpa using hq
theorem eqAt_str (x : Str) (t u : Tok) : SeqAt.EqAt A s (.str x t) (.str x u) true := fun prog w E Q hq => by
  have := (eqGives_str x x t u).at A s prog w E Q
  rw [beq_self_eq_true] at this
  exact this hq
theorem eqAt_int (x : Int) (t u : Tok) : SeqAt.EqAt A s (.int x t) (.int x u) true := fun prog w E Q hq => by
  have := SeqAt.EqAt.int_int (A := A) (s := s) x t x u prog w E Q
  rw [beq_self_eq_true] at this
  exact this hq
theorem eqAt_tok (N : News h₀ L s.heap news) {q r : Addr} {k : Str} {wo : B} {o : Int} {t1 t2 t3 u1 u2 u3 : Tok} (hq : (q, tup3 (.str k t1) (.bytes wo.toArray t2) (.int o t3) n) ∈ news) (hr : (r, tup3 (.str k u1) (.bytes wo.toArray u2) (.int o u3) m) ∈ news) (hu : A.units < cLine) :
    SeqAt.EqAt A s (.ref q) (.ref r) true := by
  by_cases hqr : q = r
  · rw [hqr]
    exact SeqAt.EqAt.same _
  · refine SeqAt.EqAt.of_refs hqr ?_
    refine SeqAt.RcAt.tuples (e := fun _ => true) ⟨_, (N _ hq).1, rfl, _, rfl⟩ ⟨_, (N _ hr).1, rfl, _, rfl⟩ hu fun j h1 h2 => ?_
    have hj : j < 3 := h1
    match j, hj with
    | 0, _ => exact eqAt_str _ _ _
    | 1, _ => exact eqAt_bytes _ _ _ _ rfl
    | 2, _ => exact eqAt_int _ _ _
theorem toks_ne {Q : Value → Shared → Prop} {xs ys : List Value} {ka kb : Nat} {n₁ n₂ : List (Addr × Obj)} {ts : List Tk3} (N : News h₀ L s.heap news) (ma : (a, listOf xs.toArray ka) ∈ news) (mb : (b, listOf ys.toArray kb) ∈ news)
    (Da : DatAll n₁ xs (ts.map tokD)) (sa : ∀ p ∈ n₁, p ∈ news) (Db : DatAll n₂ ys (ts.map tokD)) (sb : ∀ p ∈ n₂, p ∈ news) (hu : A.units + 1 < cLine) (h : Q (.bool false) s) : wpAny (model prog w) A (compareOp .NotEq (.ref a) (.ref b)) Q E s := by
  have hx : xs.length = ts.length := by rw [Da.length, List.length_map]
  have hy : ys.length = ts.length := by rw [Db.length, List.length_map]
  refine rcne (SeqAt.RcNeAt.lists (e := fun _ => true) ⟨_, (N _ ma).1, rfl, _, rfl⟩ ⟨_, (N _ mb).1, rfl, _, rfl⟩ (by rw [List.size_toArray, List.size_toArray, hx, hy]) (by omega) fun j h1 h2 => ?_) ?_
  · rw [List.size_toArray] at h1 h2
    obtain ⟨q, n1, t2, t3, t4, hq, hqm⟩ := tok_at (Da.mono sa) (i := j) (by omega)
    obtain ⟨r, n2, u2, u3, u4, hr, hrm⟩ := tok_at (Db.mono sb) (i := j) (by omega)
    rw [List.getElem?_eq_getElem h1] at hq
    rw [List.getElem?_eq_getElem h2] at hr
    simp only [List.getElem_toArray]
    rw [Option.some.inj hq, Option.some.inj hr]
    exact eqAt_tok N hqm hrm hu
  · have e : (!(List.range xs.toArray.size).all fun _ => true) = false := by
      have : (List.range xs.toArray.size).all (fun _ => true) = true := List.all_eq_true.mpr fun _ _ => rfl
      rw [this]
      rfl
    rw [e]
    exact h
theorem list_ne_nil {Q : Value → Shared → Prop} {xs : List Value} {ka kb : Nat} (N : News h₀ L s.heap news) (ma : (a, listOf xs.toArray ka) ∈ news) (mb : (b, listOf #[] kb) ∈ news)
    (hu : A.units < cLine) (h : Q (.bool (!xs.isEmpty)) s) : wpAny (model prog w) A (compareOp .NotEq (.ref a) (.ref b)) Q E s := by
  cases xs with
  | nil => exact rcne (SeqAt.RcNeAt.lists (e := fun _ => true) ⟨_, (N _ ma).1, rfl, _, rfl⟩ ⟨_, (N _ mb).1, rfl, _, rfl⟩ rfl hu fun j h1 h2 => absurd h1 (Nat.not_lt_zero j)) h
  | cons x r => exact rcne (SeqAt.RcNeAt.lists_lengths ⟨_, (N _ ma).1, rfl, _, rfl⟩ ⟨_, (N _ mb).1, rfl, _, rfl⟩ (by simp) hu) h
end
end
theorem fresh_H8 : ite True True True := by
  try (walk1; fail)
  w_top off
  exact trivial
section
/- the plain law: parts joined by their sign are the whole -/
theorem offs_strip : ∀ (a : List PTk) (pv : Option Kd) (j : Nat), (offs pv j a).map strip = a
  | [], _, _ => rfl
  | (k, w) :: r, pv, j => by
    show strip (k, w, _) :: (offs _ _ r).map strip = _
    rw [offs_strip r]
    rfl
theorem jn_last (b : B) : ∀ (xs : List B) (y z : B), jn b (xs ++ [y ++ z]) = jn b (xs ++ [y]) ++ z
  | [], y, z => by simp [jn]
  | x :: r, y, z => by simp [jn, List.flatMap_append]
theorem jn_more (b : B) : ∀ (xs : List B) (y : B), jn b (xs ++ [y] ++ [[]]) = jn b (xs ++ [y]) ++ b
  | [], y => by simp [jn]
  | x :: r, y => by simp [jn, List.flatMap_append]
theorem gap_sign (pv : Option Kd) : gap pv .sign = [] := by unfold gap; rw [if_neg fun x => nomatch x.2]
theorem gap_after (k : Kd) : gap (some .sign) k = gap none k := by cases k <;> decide
noncomputable def layT (d : List Tk3) : B := lay none (d.map strip)
theorem layT_snoc (d : List Tk3) (x : Tk3) : layT (d ++ [x]) = layT d ++ (gap (lastOr none (d.map strip)) x.1 ++ shownB x.1 x.2.1) := by
  unfold layT
  rw [List.map_append]
  exact lay_snoc _ _ _
theorem spl_lay (sg : UInt8) (ts : List Tk3) : jn [sg] (((spl sg ts).1 ++ [(spl sg ts).2]).map layT) = layT ts ∧ ∀ k, gap (lastOr none ((spl sg ts).2.map strip)) k = gap (lastOr none (ts.map strip)) k := by
  have key : ∀ n, ∀ ts : List Tk3, ts.length = n → jn [sg] (((spl sg ts).1 ++ [(spl sg ts).2]).map layT) = layT ts ∧ ∀ k, gap (lastOr none ((spl sg ts).2.map strip)) k = gap (lastOr none (ts.map strip)) k := by
    intro n
    induction n with
    | zero =>
      intro ts h
      rw [List.eq_nil_of_length_eq_zero h]
      exact ⟨rfl, fun _ => rfl⟩
    | succ n ih =>
      intro ts h
      have hne : ts ≠ [] := by intro e; rw [e] at h; cases h
      rw [← List.dropLast_concat_getLast hne] at h ⊢
      generalize ts.dropLast = tl at *
      generalize ts.getLast hne = x at *
      rw [List.length_append] at h
      obtain ⟨h1, h2⟩ := ih tl (Nat.succ.inj h)
      rw [spl_snoc, layT_snoc]
      generalize spl sg tl = st at *
      obtain ⟨gs, cur⟩ := st
      dsimp only at h1 h2
      unfold splStep
      by_cases hx : isAt sg x = true
      · rw [if_pos hx]
        unfold isAt at hx
        obtain ⟨e1, e2⟩ := of_decide_eq_true hx
        dsimp only
        refine ⟨?_, ?_⟩
        · rw [List.map_append, List.map_append, ← List.map_append] 
          rw [e1, e2, gap_sign, ← h1, List.map_append]
          exact jn_more [sg] _ _
        · intro k
          rw [List.map_append]
          show gap none k = gap (lastOr none (tl.map strip ++ [strip x])) k
          rw [lastOr_snoc]
          show gap none k = gap (some x.1) k
          rw [e1, gap_after]
      · rw [if_neg hx]
        dsimp only
        refine ⟨?_, ?_⟩
        · rw [List.map_append]
          show jn [sg] (gs.map layT ++ [layT (cur ++ [x])]) = _
          rw [layT_snoc, jn_last, h2, ← h1, List.map_append]
          rfl
        · intro k
          rw [List.map_append, List.map_append]
          show gap (lastOr none (cur.map strip ++ [strip x])) k = gap (lastOr none (tl.map strip ++ [strip x])) k
          rw [lastOr_snoc, lastOr_snoc]
  exact key _ ts rfl
theorem parts_lay (sg : UInt8) (ts : List Tk3) : jn [sg] ((partsOf sg ts).map layT) = layT ts := (spl_lay sg ts).1
theorem spl_mem (sg : UInt8) : ∀ (ts : List Tk3) (st : List (List Tk3) × List Tk3) (S : List Tk3), (∀ d ∈ st.1 ++ [st.2], (∀ x ∈ d, x ∈ S)) → (∀ x ∈ ts, x ∈ S) → ∀ d ∈ (ts.foldl (splStep sg) st).1 ++ [(ts.foldl (splStep sg) st).2], ∀ x ∈ d, x ∈ S
  | [], st, S, h, _ => h
  | y :: r, st, S, h, hs => by
    refine spl_mem sg r (splStep sg st y) S ?_ fun x hx => hs x (.tail _ hx)
    intro d hd x hx
    unfold splStep at hd
    by_cases hy : isAt sg y = true
    · rw [if_pos hy] at hd
      rcases List.mem_append.mp hd with hd | hd
      · exact h d hd x hx
      · rw [List.mem_singleton.mp hd] at hx
        cases hx
    · rw [if_neg hy] at hd
      rcases List.mem_append.mp hd with hd | hd
      · exact h d (List.mem_append_left _ hd) x hx
      · rw [List.mem_singleton.mp hd] at hx
        rcases List.mem_append.mp hx with hx | hx
        · exact h st.2 (List.mem_append_right _ (.head _)) x hx
        · rw [List.mem_singleton.mp hx]
          exact hs y (.head _)
theorem parts_mem (sg : UInt8) (ts : List Tk3) : ∀ d ∈ partsOf sg ts, ∀ x ∈ d, x ∈ ts :=
  spl_mem sg ts ([], []) ts (fun d hd x hx => by rw [List.mem_singleton.mp hd] at hx; cases hx) fun _ h => h
theorem spl_len (sg : UInt8) : ∀ (ts : List Tk3) (st : List (List Tk3) × List Tk3) (n : Nat), st.1.length ≤ n → (∀ d ∈ st.1 ++ [st.2], d.length ≤ n) → (ts.foldl (splStep sg) st).1.length ≤ n + ts.length ∧ ∀ d ∈ (ts.foldl (splStep sg) st).1 ++ [(ts.foldl (splStep sg) st).2], d.length ≤ n + ts.length
  | [], st, n, h, h2 => ⟨h, h2⟩
  | y :: r, st, n, h, h2 => by
    have := spl_len sg r (splStep sg st y) (n + 1) ?_ ?_
    · rw [List.length_cons, Nat.add_comm r.length 1, ← Nat.add_assoc]
      exact this
    · unfold splStep
      by_cases hy : isAt sg y = true
      · rw [if_pos hy, List.length_append]
        exact Nat.succ_le_succ h
      · rw [if_neg hy]
        exact Nat.le_succ_of_le h
    · intro d hd
      unfold splStep at hd
      by_cases hy : isAt sg y = true
      · rw [if_pos hy] at hd
        rcases List.mem_append.mp hd with hd | hd
        · exact Nat.le_succ_of_le (h2 d hd)
        · rw [List.mem_singleton.mp hd]
          exact Nat.zero_le _
      · rw [if_neg hy] at hd
        rcases List.mem_append.mp hd with hd | hd
        · exact Nat.le_succ_of_le (h2 d (List.mem_append_left _ hd))
        · rw [List.mem_singleton.mp hd, List.length_append]
          exact Nat.succ_le_succ (h2 st.2 (List.mem_append_right _ (.head _)))
theorem parts_len (sg : UInt8) (ts : List Tk3) : (partsOf sg ts).length ≤ ts.length + 1 ∧ ∀ d ∈ partsOf sg ts, d.length ≤ ts.length := by
  have h := spl_len sg ts ([], []) 0 (Nat.le_refl _) (fun d hd => by rw [List.mem_singleton.mp hd]; exact Nat.le_refl _)
  rw [Nat.zero_add] at h
  refine ⟨?_, h.2⟩
  unfold partsOf
  rw [List.length_append]
  exact Nat.succ_le_succ h.1
theorem Alls.get {L : List (Addr × Obj)} : ∀ {gs : List Gp} {ds : List (List Tk3)} {i : Nat} {d : List Tk3}, Alls L gs ds → ds[i]? = some d → ∃ g, gs[i]? = some g ∧ DatAll L g.2.1 (d.map tokD)
  | [], [], _, _, _, h => by simp at h
  | g :: gs, d :: ds, 0, e, hA, h => ⟨g, rfl, by simp at h; rw [← h]; exact hA.1⟩
  | g :: gs, d :: ds, i + 1, e, hA, h => by
    obtain ⟨g', hg, hd⟩ := Alls.get hA.2 (i := i) (d := e) (by simpa using h)
    exact ⟨g', by simpa using hg, hd⟩
  | [], _ :: _, _, _, hA, _ => hA.elim
  | _ :: _, [], _, _, hA, _ => hA.elim
theorem Alls.length {L : List (Addr × Obj)} : ∀ {gs : List Gp} {ds : List (List Tk3)}, Alls L gs ds → gs.length = ds.length
  | [], [], _ => rfl
  | _ :: _, _ :: _, h => congrArg (· + 1) (Alls.length h.2)
  | [], _ :: _, h => h.elim
  | _ :: _, [], h => h.elim
noncomputable def badT (p : PTk) : Bool := p.1.body && (p.2.contains 0 || p.2.contains 10)
theorem plan_ok {k : Kd} {wo : B} (h : PlanOk k wo) (hb : badT (k, wo) = false) : okTk k wo := by
  have tab : ∀ {wo : B}, (∀ c ∈ wo, c ∈ worthTab) → (wo.contains 0 || wo.contains 10) = false → ∀ c ∈ wo, c ≠ 0 ∧ c ≠ 10 ∧ c ≠ 13 := by
    intro wo h hb c hc
    rw [Bool.or_eq_false_iff] at hb
    refine ⟨?_, ?_, ?_⟩
    · rintro rfl
      have := hb.1
      rw [List.contains_eq_mem, decide_eq_false_iff_not] at this
      exact this hc
    · rintro rfl
      have := hb.2
      rw [List.contains_eq_mem, decide_eq_false_iff_not] at this
      exact this hc
    · rintro rfl
      exact absurd (h 13 hc) (by decide)
  cases k with
  | atom =>
    have h' : wo ∈ ([[97], [98, 45, 49], [233], [61, 63]] : List B) := h
    revert wo
    show ∀ wo, _ → _
    intro wo h _ h'
    simp only [List.mem_cons, List.not_mem_nil, or_false] at h'
    rcases h' with rfl | rfl | rfl | rfl <;> exact ⟨by decide, by decide⟩
  | sign =>
    have h' : wo ∈ ([[44], [64], [92], [46], [60]] : List B) := h
    simp only [List.mem_cons, List.not_mem_nil, or_false] at h'
    rcases h' with rfl | rfl | rfl | rfl | rfl <;> exact ⟨_, rfl, by decide⟩
  | quoted => exact tab h.2 hb
  | literal => exact tab h.2 hb
  | comment => exact tab h.2 hb
theorem plan_ok_all {plan : List PTk} (hpk : ∀ p ∈ plan, PlanOk p.1 p.2) (hb : plan.any badT = false) : okAll plan := fun p hp =>
  plan_ok (hpk p hp) (by simpa using List.any_eq_false.mp hb p hp)
theorem first_bad : ∀ (plan : List PTk), plan.any badT = true → ∃ j, ∃ h : j < plan.length, badT plan[j] = true ∧ ∀ i, ∀ h : i < plan.length, i < j → badT plan[i] = false
  | [], h => by cases h
  | p :: r, h => by
    by_cases hp : badT p = true
    · exact ⟨0, Nat.zero_lt_succ _, hp, fun i _ hi => absurd hi (Nat.not_lt_zero i)⟩
    · have hp' : badT p = false := by simpa using hp
      rw [List.any_cons, hp', Bool.false_or] at h
      obtain ⟨j, hj, h1, h2⟩ := first_bad r h
      refine ⟨j + 1, Nat.succ_lt_succ hj, h1, fun i hi hij => ?_⟩
      cases i with
      | zero => exact hp'
      | succ i => exact h2 i (Nat.lt_of_succ_lt_succ hi) (Nat.lt_of_succ_lt_succ hij)
end
theorem fresh_H9 : ite True True True := by
  try (walk1; fail)
  w_top off
  exact trivial
section
section
variable {prog : Program} {w : World} {A : Around} {E : Value → Shared → Prop} {s : Shared} {env : Env} {h₀ : Heap} {x : Str} {body : List Stmt} {Q : Flow → Shared → Prop}
theorem wider {I : Addr} {fp wr wr' : List Addr} {n : Nat} {P : Nat → Value → Prop} {St : Nat → Heap → Prop} (W : Walks prog w A I fp wr n P St) (h1 : ∀ b ∈ wr, b ∈ wr') (h2 : ∀ b ∈ wr', b ∈ fp) : Walks prog w A I fp wr' n P St where
  sub := h2
  frame := W.frame
  item := fun i s Q E hi st hQ => W.item i s Q E hi st fun v h' tk p st' k => hQ v h' tk p st' fun b o hb => k b o fun hw => hb (h1 b hw)
  done := fun s Q E st hQ => W.done s Q E st fun h' tk k => hQ h' tk fun b o hb => k b o fun hw => hb (h1 b hw)
  self := W.self
/-- a loop over a tuple of the ledger: any state between the turns; the tuple itself leaves the ledger -/
theorem my_tupFor {t : Addr} {items : List Value} {nt : Nat} {m₀ : Str → Option Value} {news news₀ : List (Addr × Obj)} (J : Nat → (Str → Option Value) → List (Addr × Obj) → Prop)
    (hh : A.handled = none) (F : Fr h₀ env.locals s.heap m₀) (N₀ : News h₀ env.locals s.heap news₀) (ht : (t, ({ cls := .type "tuple", data := .seq items.toArray nt } : Obj)) ∈ news₀) (hs : ∀ p ∈ news, p ∈ news₀) (hne : ∀ p ∈ news, p.1 ≠ t) (hj : J 0 m₀ news)
    (turn : ∀ i v m₁ nx h tk own, items[i]? = some v → OwnOff own (nx.map (·.1)) → J i m₁ nx → Fr h₀ env.locals h (fun y => if y = x then some v else m₁ y) → News h₀ env.locals h (nx ++ own) →
      wpAny (model prog w) A (execs body env) (InvPostG h₀ env.locals (J (i + 1)) own { s with heap := h, toks := tk } Q) E { s with heap := h, toks := tk })
    (done : ∀ m₁ nx h tk, J items.length m₁ nx → Fr h₀ env.locals h m₁ → News h₀ env.locals h nx → Q .next { s with heap := h, toks := tk }) :
    wpAny (model prog w) A (pyIter (.ref t)) (fun it s₂ => LoopAtV prog w A h₀ env x body Q E it s₂) E s := by
  have ot := N₀ _ ht
  have htp : s.heap.IsTuple t items.toArray := ⟨_, ot.1, rfl, nt, rfl⟩
  have hne' : t ≠ s.heap.objs.size := Nat.ne_of_lt (Heap.lt_size ot.1)
  refine wpAny_pyIter_tuple htp ?_
  have W := wider (wr' := [s.heap.objs.size, t]) (Walks.tuple (prog := prog) (w := w) hh s.heap.objs.size t hne' items.toArray) (fun b hb => by rw [List.mem_singleton.mp hb]; exact .head _) (fun _ h => h)
  have hl : items.toArray.size = items.length := by simp
  rw [hl] at W
  have N : News h₀ env.locals s.heap news := fun p hp => N₀ p (hs p hp)
  refine kdr_loop J W (fun _ h => h) (fun _ h => h) ?_ ?_ ?_ ?_ ⟨⟨_, Heap.get?_push_size _ rfl, rfl, rfl⟩, htp.at fun o e => Heap.get?_push_of_some _ e⟩ (F.push _) (fun p hp => ⟨Heap.get?_push_of_some _ (N p hp).1, (N p hp).2⟩) hj ?_ ?_
  · rintro i h ⟨⟨o, ho, _⟩, ⟨o', ho', _⟩⟩ b hb
    rcases List.mem_cons.mp hb with rfl | hb
    · exact ⟨_, ho⟩
    · rw [List.mem_singleton.mp hb]
      exact ⟨_, ho'⟩
  · intro hm
    rcases List.mem_cons.mp hm with e | hm
    · exact absurd F.ns.lt (e ▸ Nat.lt_irrefl _)
    · exact ot.2.1 (List.mem_singleton.mp hm).symm
  · intro b hb
    rcases List.mem_cons.mp hb with rfl | hb
    · exact next_is_new F
    · rw [List.mem_singleton.mp hb]
      exact ot.2.2
  · intro p hp hI
    rcases List.mem_cons.mp hI with e | hI
    · exact absurd (Heap.lt_size (N p hp).1) (e ▸ Nat.lt_irrefl _)
    · exact hne p hp (List.mem_singleton.mp hI)
  · rintro i v m₁ nx h tk own hi hv hoff hJ F₁ N₁
    exact turn i v m₁ nx h tk own (by simpa using hv) hoff hJ F₁ N₁
  · exact done
end
theorem three_signs {i : Nat} {v : Value} {a b c : Tok} (h : [Value.bytes #[44] a, .bytes #[64] b, .bytes #[46] c][i]? = some v) : ∃ (sg : UInt8) (t : Tok), v = .bytes (List.toArray [sg]) t := by
  match i, h with
  | 0, h => exact ⟨44, a, by simpa using h.symm⟩
  | 1, h => exact ⟨64, b, by simpa using h.symm⟩
  | 2, h => exact ⟨46, c, by simpa using h.symm⟩
  | n + 3, h => simp at h
end
theorem fresh_X1 : ite True True True := by
  try (walk1; fail)
  w_top off
  exact trivial
section
local macro_rules | `(tactic| walk_at "exec Raise some none") => `(tactic| with_reducible refine stop ?_)
noncomputable def fineB (c : UInt8) : Prop := c ≠ 0 ∧ c ≠ 10 ∧ c ≠ 13
theorem escaped_raise (w : World) (news : List (Addr × Obj)) (wo : B) (t : Tok) (bar : B) (tb : Tok) (pre suf : B) (c : UInt8) (hwo : wo = pre ++ c :: suf) (hw : ∀ c ∈ pre, c ≠ 0 ∧ c ≠ 10 ∧ c ≠ 13) (hc : c = 0 ∨ c = 10 ∨ c = 13) (hz : wo.length ≤ 1000) :
    TellX w news 139 [.bytes wo.toArray t, .bytes bar.toArray tb] 4 64 := by
  unfold TellX
  intro mean mg mb dp un gd cn cs a ccd cl' outer A₀ base h₀ L m s Q E Bw F X N T hk hd hu hret
  refine wpAny_call ?_
  k_dflt cell_enter
  k_steps
  rename_i l h2 l1 h3 F1 N1
  refine unstop ?_
  (with_unfolding_all refine' For_invVF F1 ?k1 ?k2 ?_; (case k1 => exact rfl); (case k2 => exact rfl))
  k_steps
  try clear F1 N1
  (with_reducible rename Fr _ _ _ _ => F1)
  (with_reducible rename News _ _ _ _ => N1)
  (rename IsRange _ _ _ _ _ _ _ _ => hR)
  refine unstop ?_
  have hpl : pre.length < wo.length := by rw [hwo]; simp
  refine my_range (n := wo.length) (fun i m nx => i ≤ pre.length ∧ ∃ (items : List (B × Tok)) (k : Nat), items.length ≤ 2 * i ∧ nx = (l, listOf (bvals items).toArray k) :: news ∧
    AllAt m [(Str.ofString "octets", .bytes wo.toArray t), (Str.ofString "signs", .bytes bar.toArray tb), (Str.ofString "parts", .ref l)])
    rfl hR rfl (by omega) F1 N1 ⟨Nat.zero_le _, [], 0, Nat.le_refl _, rfl, rfl, rfl, rfl, trivial⟩ ?_ ?_
  · rintro i ti m₁ nx h₁ tk₁ own hi hoff ⟨hip, items, k, hil, hnx, hm⟩ F₁ N₁
    subst nx
    obtain ⟨x, r, hd0, hcm, htk⟩ := drop_cons hi
    have hsz0 : (bvals items).toArray.size ≤ 16777216 := by rw [bvals_size]; omega
    have hsz1 : ((bvals items).toArray.push (.bytes [92].toArray 0)).size ≤ 16777216 := by rw [Array.size_push, bvals_size]; omega
    have hne : ∀ p ∈ news ++ own, p.1 ≠ l := fun p hp => by
      rcases List.mem_append.mp hp with hp | hp
      · exact Nat.ne_of_lt (l1 p hp)
      · exact hoff p hp l (.head _)
    have F₂ := ats F₁ (ps := [(Str.ofString "at", .int (i : Int) ti), (Str.ofString "octets", .bytes wo.toArray t), (Str.ofString "signs", .bytes bar.toArray tb), (Str.ofString "parts", .ref l)]) ⟨rfl, hm.1, hm.2.1, hm.2.2.1, trivial⟩
    have N₂ : News _ _ h₁ ((l, listOf (bvals items).toArray k) :: (news ++ own)) := N₁
    clear F₁ N₁ F1 N1
    by_cases hlt : i < pre.length
    · have hx : x ∈ pre := by
        have e1 : wo[i]? = some x := by
          have := congrArg List.head? hd0
          simpa [List.head?_drop] using this
        rw [hwo, List.getElem?_append_left hlt] at e1
        exact List.mem_of_getElem? e1
      obtain ⟨c0, c10, c13⟩ := hw x hx
      have n0 : (x.toNat : Int) ≠ 0 := toNat_ne c0
      have n10 : (x.toNat : Int) ≠ 10 := toNat_ne c10
      have n13 : (x.toNat : Int) ≠ 13 := toNat_ne c13
      by_cases hc : bar.contains x = true
      · k_steps
        (with_reducible rename Fr _ _ _ _ => F3)
        (with_reducible rename News _ _ _ _ => N3)
        exact InvEndG.intro (nx := (l, _) :: news) F3 N3 ⟨hlt, (items ++ [([92], _)]) ++ [([x], _)], _, by simp only [List.length_append, List.length_cons, List.length_nil]; omega, by rw [bvals_snoc, bvals_snoc], rfl, rfl, rfl, trivial⟩ (by exact hoff) (List.forall_mem_cons.mpr ⟨.head _, fun p hp => .tail _ (List.mem_append_left _ hp)⟩) (fun p hp => .tail _ (List.mem_append_right _ hp))
      · have hc' : bar.contains x = false := by simpa using hc
        k_steps
        (with_reducible rename Fr _ _ _ _ => F3)
        (with_reducible rename News _ _ _ _ => N3)
        exact InvEndG.intro (nx := (l, _) :: news) F3 N3 ⟨hlt, items ++ [([x], _)], _, by simp only [List.length_append, List.length_cons, List.length_nil]; omega, by rw [bvals_snoc], rfl, rfl, rfl, trivial⟩ (by exact hoff) (List.forall_mem_cons.mpr ⟨.head _, fun p hp => .tail _ (List.mem_append_left _ hp)⟩) (fun p hp => .tail _ (List.mem_append_right _ hp))
    · have hxc : x = c := by
        have e1 : wo[i]? = some x := by
          have := congrArg List.head? hd0
          simpa [List.head?_drop] using this
        have hie : i = pre.length := by omega
        rw [hwo, hie] at e1
        simpa using e1.symm
      have nbad : (x.toNat : Int) = 0 ∨ (x.toNat : Int) = 10 ∨ (x.toNat : Int) = 13 := by
        rw [hxc]
        rcases hc with rfl | rfl | rfl
        · exact .inl rfl
        · exact .inr (.inl rfl)
        · exact .inr (.inr rfl)
      k_steps
      refine unstop ?_
      (with_reducible rename Fr h₀ _ _ _ => FG)
      (with_reducible rename Below (ktrTop _ _ _ _ _ _ _ _ _ _) _ _ _ => BK)
      k_dflt (refine wf_raise_K (news := (l, listOf (bvals items).toArray k) :: (news ++ own)) BK F₂ (by assumption) (by assumption) rfl (by ktr_room) (by ktr_units) ?_ rfl rfl rfl)
      k_steps
      · exact F₂
      · exact N₂
      · k_dflt (refine' leave_firstK BK ?ho ?F ?N ?_ ?hne rfl; (case N => assumption); (case F => assumption); (case ho => assumption); (case hne => assumption))
        intro h' R U
        exact hret _ _ _ _ FG (raised_sub R fun p hp => .tail _ (List.mem_append_left _ hp)) U
  · rintro m₁ nx h₁ tk₁ ⟨hip, _⟩ F₁ N₁
    omega
/-- a call that raises, in a frame that hands it on -/
theorem pass_on {w : World} {news : List (Addr × Obj)} {f : Addr} {args : List Value} {d u : Nat} (T : TellX w news f args d u)
    {mean : ExcName → Option Value} {mg mb : Str → Option Value} {dp un : Nat} {gd : Option (List Code)} {cn : Str} {cs : Scope} {a : Addr} {ccd : Value} {outer : List Env} {A₀ : Around} {base h₀ : Heap} {L : Addr} {m : Str → Option Value} {s : Shared}
    {Q E E' : Value → Shared → Prop} (B : Below A₀ base outer h₀) (F : Fr h₀ L s.heap m) (X : (hd.heap_39 w.params).In h₀) (N : News h₀ L s.heap news) (Tp : Top hd.view_39 (looseW hd.view_39 [Str.ofString "PostError"]) mean mg mb h₀) (hk : cs.kind = .function)
    (hE : ∀ e s', wpAny (model PySem.Challenge.rw_or0042_01.row.prog w) (A₀.deeper (envOf cn cs L a ccd)) (leaving (envOf cn cs L a ccd) e) (fun _ s'' => E' e s'') (fun e' s'' => E' e' s'') s' → E e s')
    (hd : dp + d < recursionLimit) (hu : un + u < cLine) (ret : ∀ e h' tk', RaisedN base outer e (.ref 59) news h' → h₀.UpToSlots h' → E' (.ref e) { s with heap := h', toks := tk' }) :
    wpAny (model PySem.Challenge.rw_or0042_01.row.prog w) (ktrTop dp un gd cn cs L a ccd [] outer) (call (.ref f) args) Q E s :=
  T.use B F X N Tp hk hd hu fun g e h' tk' Fg R U => hE _ _ (leave_onN B Fg R U fun h'' R' U' => ret _ _ _ R' U')
theorem quoted_raise (w : World) (news : List (Addr × Obj)) (wo : B) (t : Tok) (pre suf : B) (c : UInt8) (hwo : wo = pre ++ c :: suf) (hw : ∀ c ∈ pre, c ≠ 0 ∧ c ≠ 10 ∧ c ≠ 13) (hc : c = 0 ∨ c = 10 ∨ c = 13) (hz : wo.length ≤ 1000) :
    TellX w news 146 [.bytes wo.toArray t] 5 80 := by
  unfold TellX
  intro mean mg mb dp un gd cn cs a ccd cl' outer A₀ base h₀ L m s Q E Bw F X N T hk hd hu hret
  refine wpAny_call ?_
  k_dflt cell_enter
  k_steps
  refine unstop ?_
  (with_reducible rename Fr h₀ _ _ _ => FG)
  (with_reducible rename Below (ktrTop _ _ _ _ _ _ _ _ _ _) _ _ _ => BK)
  (with_reducible rename News _ _ _ _ => N3)
  (with_reducible rename Fr _ _ _ _ => F3)
  k_dflt (refine pass_on (escaped_raise w news wo _ _ _ pre suf c hwo hw hc hz) BK F3 (by assumption) N3 (by assumption) rfl (fun _ _ z => z) (by ktr_room) (by ktr_units) ?_)
  intro e h' tk' R U
  exact hret _ _ _ _ FG R U
end
theorem fresh_X2 : ite True True True := by
  try (walk1; fail)
  w_top off
  exact trivial
section
noncomputable def badW (w : B) : Prop := ∃ pre c suf, w = pre ++ c :: suf ∧ (∀ x ∈ pre, x ≠ 0 ∧ x ≠ 10 ∧ x ≠ 13) ∧ (c = 0 ∨ c = 10 ∨ c = 13)
theorem show_token_raise (w : World) (news : List (Addr × Obj)) (q : Addr) (k : Kd) (wo : B) (j : Int) (n : Nat) (t2 t3 t4 : Tok) (hm : (q, tup3 (.str k.str t2) (.bytes wo.toArray t3) (.int j t4) n) ∈ news) (hkb : k.body = true) (hbad : badW wo) (hz : wo.length ≤ 1000) :
    TellX w news 153 [.ref q] 6 96 := by
  obtain ⟨pre, c, suf, hwo, hw, hc⟩ := hbad
  unfold TellX
  intro mean mg mb dp un gd cn cs a ccd cl' outer A₀ base h₀ L m s Q E Bw F X N T hk hd hu hret
  refine wpAny_call ?_
  k_dflt cell_enter
  cases k with
  | quoted =>
    k_steps
    refine unstop ?_
    (with_reducible rename Fr h₀ _ _ _ => FG)
    (with_reducible rename Below (ktrTop _ _ _ _ _ _ _ _ _ _) _ _ _ => BK)
    (with_reducible rename News _ _ _ _ => N3)
    (with_reducible rename Fr _ _ _ _ => F3)
    k_dflt (refine pass_on (quoted_raise w _ wo _ pre suf c hwo hw hc hz) BK F3 (by assumption) N3 (by assumption) rfl (fun _ _ z => z) (by ktr_room) (by ktr_units) ?_)
    intro e h' tk' R U
    exact hret _ _ _ _ FG (raised_sub R fun p hp => .tail _ hp) U
  | literal =>
    k_steps
    refine unstop ?_
    (with_reducible rename Fr h₀ _ _ _ => FG)
    (with_reducible rename Below (ktrTop _ _ _ _ _ _ _ _ _ _) _ _ _ => BK)
    (with_reducible rename News _ _ _ _ => N3)
    (with_reducible rename Fr _ _ _ _ => F3)
    k_dflt (refine pass_on (escaped_raise w _ wo _ _ _ pre suf c hwo hw hc hz) BK F3 (by assumption) N3 (by assumption) rfl (fun _ _ z => z) (by ktr_room) (by ktr_units) ?_)
    intro e h' tk' R U
    exact hret _ _ _ _ FG (raised_sub R fun p hp => .tail _ hp) U
  | comment =>
    k_steps
    refine unstop ?_
    (with_reducible rename Fr h₀ _ _ _ => FG)
    (with_reducible rename Below (ktrTop _ _ _ _ _ _ _ _ _ _) _ _ _ => BK)
    (with_reducible rename News _ _ _ _ => N3)
    (with_reducible rename Fr _ _ _ _ => F3)
    k_dflt (refine pass_on (escaped_raise w _ wo _ _ _ pre suf c hwo hw hc hz) BK F3 (by assumption) N3 (by assumption) rfl (fun _ _ z => z) (by ktr_room) (by ktr_units) ?_)
    intro e h' tk' R U
    exact hret _ _ _ _ FG (raised_sub R fun p hp => .tail _ hp) U
  | sign => cases hkb
  | atom => cases hkb
end
theorem fresh_X3 : ite True True True := by
  try (walk1; fail)
  w_top off
  exact trivial
section
local macro_rules | `(tactic| walk_at "call ref") => `(tactic| ((with_reducible show wpAny _ _ (call (Value.ref 153) _) _ _ _); k_dflt (refine' Tell.use (show_token_tell _ _ _ _ _ _ _ _ _ _ ?kM ?kA ?kB) ?k1 ?k2 ?k3 ?k4 ?k5 ?kK ?kd ?ku ?_; (case k1 => k_asm); (case k2 => k_asm); (case k3 => k_asm); (case k4 => k_asm); (case k5 => k_asm); (case kM => k_mem); (case kA => assumption); (case kB => assumption); (case kK => first | exact rfl | assumption); (case kd => ktr_room); (case ku => ktr_units)); (intro v9 n9 h9 tk9 p9 F9 N9; obtain ⟨e9, t9, e8⟩ := p9; subst n9; subst v9); (try dsimp only); (try k_sweep); (try k_fold)))
local macro_rules | `(tactic| walk_at "subscriptTail") => `(tactic| (k_here; (with_reducible show wpAny _ _ (subscriptTail _ _ (Value.ref _) (Value.int (Nat.cast (_ + 1) - 1) _)) _ _ _); k_dflt (refine' my_litem1 ?k1 ?k2 ?k4 ?k5 ?_; (case k1 => k_asm); (case k4 => assumption); (case k2 => k_mem); (case k5 => omega))))
theorem body_not_atom {k : Kd} (h : k.body = true) : k ≠ .atom := fun e => by rw [e] at h; cases h
theorem show_tokens_raise (w : World) (news : List (Addr × Obj)) (lt : Addr) (vs : List Value) (c : Nat) (ts : List (Kd × B × Nat)) (hm : (lt, listOf vs.toArray c) ∈ news) (hall : DatAll news vs (ts.map tokD)) (j : Nat) (hj : j < ts.length)
    (hok : ∀ i (h : i < ts.length), i < j → okTk (ts[i]).1 (ts[i]).2.1) (hbk : (ts[j]).1.body = true) (hbad : badW (ts[j]).2.1) (hzs : ∀ x ∈ ts, x.2.1.length ≤ 1000) (hz : ts.length ≤ 1000) :
    TellX w news 160 [.ref lt] 8 128 := by
  have hvl : vs.length = ts.length := by rw [hall.length, List.length_map]
  unfold TellX
  intro mean mg mb dp un gd cn cs a ccd cl' outer A₀ base h₀ L m s Q E Bw F X N T hk hd hu hret
  refine wpAny_call ?_
  k_dflt cell_enter
  k_steps
  rename_i l h2 l1 h3 F1 N1
  refine unstop ?_
  (with_unfolding_all refine' For_invVF F1 ?k1 ?k2 ?_; (case k1 => exact rfl); (case k2 => exact rfl))
  k_steps
  try clear F1 N1
  (with_reducible rename Fr _ _ _ _ => F1)
  (with_reducible rename News _ _ _ _ => N1)
  (rename IsRange _ _ _ _ _ _ _ _ => hR)
  refine unstop ?_
  refine my_range (n := vs.length) (fun i m nx => i ≤ j ∧ ∃ (items : List (B × Tok)) (k : Nat), items.length ≤ 2 * i ∧ nx = (l, listOf (bvals items).toArray k) :: news ∧
    AllAt m [(Str.ofString "tokens", .ref lt), (Str.ofString "parts", .ref l)])
    rfl hR (by simp) (by omega) F1 N1 ⟨Nat.zero_le _, [], 0, Nat.le_refl _, rfl, rfl, rfl, trivial⟩ ?_ ?_
  · rintro i ti m₁ nx h₁ tk₁ own hi hoff ⟨hij, items, k, hil, hnx, hm'⟩ F₁ N₁
    subst nx
    rw [hvl] at hi
    obtain ⟨q, n1, t2, t3, t4, hq, hqm⟩ := tok_at hall hi
    have hz1 := hzs _ (List.getElem_mem hi)
    have hsh := shown_le (ts[i]).1 (ts[i]).2.1
    have hsz0 : (bvals items).toArray.size ≤ 16777216 := by rw [bvals_size]; omega
    have hsz1 : ((bvals items).toArray.push (.bytes [32].toArray 0)).size ≤ 16777216 := by rw [Array.size_push, bvals_size]; omega
    have hne : ∀ p ∈ news ++ own, p.1 ≠ l := fun p hp => by
      rcases List.mem_append.mp hp with hp | hp
      · exact Nat.ne_of_lt (l1 p hp)
      · exact hoff p hp l (.head _)
    have F₂ := ats F₁ (ps := [(Str.ofString "spot", .int (i : Int) ti), (Str.ofString "tokens", .ref lt), (Str.ofString "parts", .ref l)]) ⟨rfl, hm'.1, hm'.2.1, trivial⟩
    have N₂ : News _ _ h₁ ((l, listOf (bvals items).toArray k) :: (news ++ own)) := N₁
    clear F₁ N₁ F1 N1
    have hmL : (lt, listOf vs.toArray c) ∈ news ++ own := List.mem_append_left _ hm
    have hqL : (q, tup3 (.str (ts[i]).1.str t2) (.bytes (ts[i]).2.1.toArray t3) (.int ((ts[i]).2.2 : Int) t4) n1) ∈ news ++ own := List.mem_append_left _ hqm
    by_cases hlt : i < j
    · have hok1 := hok i hi hlt
      generalize (ts[i]).1 = kd at *
      generalize (ts[i]).2.1 = wo at *
      rcases i with _ | i
      · k_steps
        (with_reducible rename Fr _ _ _ _ => F3)
        (with_reducible rename News _ _ _ _ => N3)
        exact InvEndG.intro (nx := (l, _) :: news) F3 N3 ⟨hlt, items ++ [(shownB kd wo, _)], _, by simp only [List.length_append, List.length_cons, List.length_nil]; omega, by rw [bvals_snoc], rfl, rfl, trivial⟩ (by exact hoff) (List.forall_mem_cons.mpr ⟨.head _, fun p hp => .tail _ (List.mem_append_left _ hp)⟩) (fun p hp => .tail _ (List.mem_append_right _ hp))
      · have hi' : i < ts.length := by omega
        obtain ⟨q0, n0, s2, s3, s4, hq0, hqm0⟩ := tok_at hall hi'
        have hqL0 : (q0, tup3 (.str (ts[i]).1.str s2) (.bytes (ts[i]).2.1.toArray s3) (.int ((ts[i]).2.2 : Int) s4) n0) ∈ news ++ own := List.mem_append_left _ hqm0
        generalize (ts[i]).1 = kd0 at *
        generalize (ts[i]).2.1 = wo0 at *
        have hatom : ((Kd.atom).str == Str.ofString "atom") = true := by decide
        by_cases hk1 : kd = .atom
        · subst hk1
          by_cases hk0 : kd0 = .atom
          · subst hk0
            k_steps
            (with_reducible rename Fr _ _ _ _ => F3)
            (with_reducible rename News _ _ _ _ => N3)
            exact InvEndG.intro (nx := (l, _) :: news) F3 N3 ⟨hlt, (items ++ [([32], _)]) ++ [(shownB .atom wo, _)], _, by simp only [List.length_append, List.length_cons, List.length_nil]; omega, by rw [bvals_snoc, bvals_snoc], rfl, rfl, trivial⟩ (by exact hoff) (List.forall_mem_cons.mpr ⟨.head _, fun p hp => .tail _ (List.mem_append_left _ hp)⟩) (fun p hp => .tail _ (List.mem_append_right _ hp))
          · have hk0' := not_atom_str kd0 hk0
            k_steps
            (with_reducible rename Fr _ _ _ _ => F3)
            (with_reducible rename News _ _ _ _ => N3)
            exact InvEndG.intro (nx := (l, _) :: news) F3 N3 ⟨hlt, items ++ [(shownB .atom wo, _)], _, by simp only [List.length_append, List.length_cons, List.length_nil]; omega, by rw [bvals_snoc], rfl, rfl, trivial⟩ (by exact hoff) (List.forall_mem_cons.mpr ⟨.head _, fun p hp => .tail _ (List.mem_append_left _ hp)⟩) (fun p hp => .tail _ (List.mem_append_right _ hp))
        · have hk1' := not_atom_str kd hk1
          k_steps
          (with_reducible rename Fr _ _ _ _ => F3)
          (with_reducible rename News _ _ _ _ => N3)
          exact InvEndG.intro (nx := (l, _) :: news) F3 N3 ⟨hlt, items ++ [(shownB kd wo, _)], _, by simp only [List.length_append, List.length_cons, List.length_nil]; omega, by rw [bvals_snoc], rfl, rfl, trivial⟩ (by exact hoff) (List.forall_mem_cons.mpr ⟨.head _, fun p hp => .tail _ (List.mem_append_left _ hp)⟩) (fun p hp => .tail _ (List.mem_append_right _ hp))
    · have hie : i = j := by omega
      subst hie
      have hk1' := not_atom_str _ (body_not_atom hbk)
      generalize (ts[i]).1 = kd at *
      generalize (ts[i]).2.1 = wo at *
      rcases i with _ | i
      · k_steps
        refine unstop ?_
        (with_reducible rename Fr h₀ _ _ _ => FG)
        (with_reducible rename Below (ktrTop _ _ _ _ _ _ _ _ _ _) _ _ _ => BK)
        (with_reducible rename News _ _ _ _ => N3)
        (with_reducible rename Fr _ _ _ _ => F3)
        k_dflt (refine pass_on (show_token_raise w _ q kd wo _ _ _ _ _ (.tail _ hqL) hbk hbad hz1) BK F3 (by assumption) N3 (by assumption) rfl (fun _ _ z => z) (by ktr_room) (by ktr_units) ?_)
        intro e h' tk' R U
        exact hret _ _ _ _ FG (raised_sub R fun p hp => .tail _ (List.mem_append_left _ hp)) U
      · have hi' : i < ts.length := by omega
        obtain ⟨q0, n0, s2, s3, s4, hq0, hqm0⟩ := tok_at hall hi'
        have hqL0 : (q0, tup3 (.str (ts[i]).1.str s2) (.bytes (ts[i]).2.1.toArray s3) (.int ((ts[i]).2.2 : Int) s4) n0) ∈ news ++ own := List.mem_append_left _ hqm0
        k_steps
        refine unstop ?_
        (with_reducible rename Fr h₀ _ _ _ => FG)
        (with_reducible rename Below (ktrTop _ _ _ _ _ _ _ _ _ _) _ _ _ => BK)
        (with_reducible rename News _ _ _ _ => N3)
        (with_reducible rename Fr _ _ _ _ => F3)
        k_dflt (refine pass_on (show_token_raise w _ q kd wo _ _ _ _ _ (.tail _ hqL) hbk hbad hz1) BK F3 (by assumption) N3 (by assumption) rfl (fun _ _ z => z) (by ktr_room) (by ktr_units) ?_)
        intro e h' tk' R U
        exact hret _ _ _ _ FG (raised_sub R fun p hp => .tail _ (List.mem_append_left _ hp)) U
  · rintro m₁ nx h₁ tk₁ ⟨hij, _⟩ F₁ N₁
    omega
end
theorem fresh_X4 : ite True True True := by
  try (walk1; fail)
  w_top off
  exact trivial
section
theorem bad_split : ∀ {wo : B}, (∃ c ∈ wo, c = 0 ∨ c = 10 ∨ c = 13) → badW wo
  | [], h => by obtain ⟨c, hc, _⟩ := h; cases hc
  | x :: r, h => by
    by_cases hx : x = 0 ∨ x = 10 ∨ x = 13
    · exact ⟨[], x, r, rfl, ⟨fun y hy => absurd hy List.not_mem_nil, hx⟩⟩
    · obtain ⟨c, hc, hcc⟩ := h
      rcases List.mem_cons.mp hc with rfl | hc
      · exact absurd hcc hx
      · obtain ⟨pre, d, suf, h1, h2, h3⟩ := bad_split (wo := r) ⟨c, hc, hcc⟩
        refine ⟨x :: pre, d, suf, by rw [h1]; rfl, fun y hy => ?_, h3⟩
        rcases List.mem_cons.mp hy with rfl | hy
        · exact ⟨fun e => hx (.inl e), fun e => hx (.inr (.inl e)), fun e => hx (.inr (.inr e))⟩
        · exact h2 y hy
theorem badT_bad {p : PTk} (h : badT p = true) : p.1.body = true ∧ badW p.2 := by
  unfold badT at h
  rw [Bool.and_eq_true, Bool.or_eq_true, List.contains_eq_mem, List.contains_eq_mem, decide_eq_true_eq, decide_eq_true_eq] at h
  refine ⟨h.1, bad_split ?_⟩
  rcases h.2 with h | h
  · exact ⟨0, h, .inl rfl⟩
  · exact ⟨10, h, .inr (.inl rfl)⟩
theorem offs_at {plan : List PTk} {i : Nat} (h : i < (offs none 0 plan).length) : ∃ h' : i < plan.length, strip (offs none 0 plan)[i] = plan[i] := by
  have e := offs_strip plan none 0
  have hl : (offs none 0 plan).length = plan.length := by rw [← List.length_map strip (as := offs none 0 plan), e]
  refine ⟨hl ▸ h, ?_⟩
  have h2 : ((offs none 0 plan).map strip)[i]? = plan[i]? := by rw [e]
  rw [List.getElem?_map, List.getElem?_eq_getElem h, List.getElem?_eq_getElem (hl ▸ h)] at h2
  exact Option.some.inj h2
theorem offs_mem {plan : List PTk} {x : Tk3} (h : x ∈ offs none 0 plan) : strip x ∈ plan := by
  have := List.mem_map_of_mem (f := strip) h
  rwa [offs_strip] at this
theorem offs_len (plan : List PTk) : (offs none 0 plan).length = plan.length := by
  rw [← List.length_map strip (as := offs none 0 plan), offs_strip]
theorem law_raise (w : World) (news : List (Addr × Obj)) (lt : Addr) (vs : List Value) (c : Nat) (plan : List PTk) (hm : (lt, listOf vs.toArray c) ∈ news) (hall : DatAll news vs ((offs none 0 plan).map tokD))
    (hpk : ∀ p ∈ plan, PlanOk p.1 p.2) (hpl : plan.length ≤ 9) (hany : plan.any badT = true) : TellX w news 160 [.ref lt] 8 128 := by
  obtain ⟨j, hj, hb, hlt⟩ := first_bad plan hany
  have hj' : j < (offs none 0 plan).length := by rw [offs_len]; exact hj
  obtain ⟨_, ej⟩ := offs_at hj'
  obtain ⟨b1, b2⟩ := badT_bad hb
  refine show_tokens_raise w news lt vs c (offs none 0 plan) hm hall j hj' (fun i h hi => ?_) ?_ ?_ (fun x hx => ?_) (by rw [offs_len]; omega)
  · obtain ⟨h', e⟩ := offs_at h
    have := plan_ok (hpk _ (List.getElem_mem h')) (hlt i h' hi)
    rw [← e] at this
    exact this
  · rw [← ej] at b1
    exact b1
  · rw [← ej] at b2
    exact b2
  · have := plan_len (hpk _ (offs_mem hx))
    exact Nat.le_trans this (by decide)
theorem law_show (w : World) (news : List (Addr × Obj)) (lt : Addr) (vs : List Value) (c : Nat) (plan : List PTk) (hm : (lt, listOf vs.toArray c) ∈ news) (hall : DatAll news vs ((offs none 0 plan).map tokD))
    (hpk : ∀ p ∈ plan, PlanOk p.1 p.2) (hpl : plan.length ≤ 9) (hany : plan.any badT = false) : Tell w news 160 [.ref lt] 6 48 (fun v news' => news' = news ∧ ∃ t, v = .bytes (lay none plan).toArray t) := by
  have e := offs_strip plan none 0
  have h := show_tokens_tell w news lt vs c (offs none 0 plan) hm hall (by rw [e]; exact plan_ok_all hpk hany) (fun x hx => Nat.le_trans (plan_len (hpk _ (offs_mem hx))) (by decide)) (by rw [offs_len]; omega) (by rw [e]; have := lay_le plan none hpk; omega)
  rw [e] at h
  exact h
theorem law_tokens (w : World) (news : List (Addr × Obj)) (t : Tok) (plan : List PTk) (hpk : ∀ p ∈ plan, PlanOk p.1 p.2) (hpl : plan.length ≤ 9) (hany : plan.any badT = false) :
    Tell w news 125 [.bytes (lay none plan).toArray t] 7 64 (fun v news' => ∃ l vs c tl, v = .ref l ∧ news' = (l, listOf vs.toArray c) :: (tl ++ news) ∧ DatAll tl vs ((offs none 0 plan).map tokD)) :=
  tokens_tell w news t plan (plan_ok_all hpk hany) (by have := lay_le plan none hpk; omega) (by omega)
theorem law_part (w : World) (news : List (Addr × Obj)) (lt : Addr) (vs : List Value) (c : Nat) (plan : List PTk) (sg : UInt8) (d : List Tk3) (hd : d ∈ partsOf sg (offs none 0 plan)) (hm : (lt, listOf vs.toArray c) ∈ news) (hall : DatAll news vs (d.map tokD))
    (hpk : ∀ p ∈ plan, PlanOk p.1 p.2) (hpl : plan.length ≤ 9) (hany : plan.any badT = false) : Tell w news 160 [.ref lt] 6 48 (fun v news' => news' = news ∧ ∃ t, v = .bytes (layT d).toArray t) := by
  have hx : ∀ x ∈ d, strip x ∈ plan := fun x hx => offs_mem (parts_mem sg _ d hd x hx)
  have hdl : d.length ≤ 9 := by have := (parts_len sg (offs none 0 plan)).2 d hd; rw [offs_len] at this; omega
  have hp : ∀ p ∈ d.map strip, PlanOk p.1 p.2 := fun p hp => by
    obtain ⟨x, hxd, rfl⟩ := List.mem_map.mp hp
    exact hpk _ (hx x hxd)
  exact show_tokens_tell w news lt vs c d hm hall (fun p hp => by
    obtain ⟨x, hxd, rfl⟩ := List.mem_map.mp hp
    exact plan_ok_all hpk hany _ (hx x hxd)) (fun x hxd => Nat.le_trans (plan_len (hpk _ (hx x hxd))) (by decide)) (by omega) (by have := lay_le (d.map strip) none hp; rw [List.length_map] at this; omega)
section
variable {w : World} {s' : Shared} {h₀ h : Heap} {outer : List Env} {L a e : Addr} {m : Str → Option Value} {cn : Str} {cs : Scope} {ccd : Value} {cl : List (Str × Addr)} {dp un : Nat} {gd : Option (List Code)}
  {b₀ : Stmt} {suite : List Stmt} {pos np : Pos} {rest : List ExceptHandler} {Q : Flow → Shared → Prop} {E : Value → Shared → Prop} {news : List (Addr × Obj)} {mean : ExcName → Option Value} {mg mb : Str → Option Value}
theorem caught_wf (F : Fr h₀ L h m) (hsm : h.UpToSlots s'.heap) (R : RaisedN h₀ (envX cn cs L a ccd cl :: outer) e (.ref 59) news s'.heap)
    (X : (hd.heap_39 w.params).In h₀) (T : Top hd.view_39 (looseW hd.view_39 [Str.ofString "PostError"]) mean mg mb h₀) (hk : cs.kind = .function) (hx : (envX cn cs L a ccd cl).kindOf (Str.ofString "WordFault") = some .globalImplicit)
    (k : ∀ h', Fr h₀ L h' m → News h₀ L h' news →
      wpAny (model PySem.Challenge.rw_or0042_01.row.prog w) ((ktrTop dp un gd cn cs L a ccd cl outer).mark (some (.ref e))) (execs (b₀ :: suite) (envX cn cs L a ccd cl)) Q (fun _ _ => False) { s' with heap := h' }) :
    wpAny (model PySem.Challenge.rw_or0042_01.row.prog w) (ktrTop dp un gd cn cs L a ccd cl outer) (noteFrame (.ref e) (envX cn cs L a ccd cl))
      (fun _ s₂ => wpAny (model PySem.Challenge.rw_or0042_01.row.prog w) (ktrTop dp un gd cn cs L a ccd cl outer) (setFlight (.ref e) none) (fun _ s₃ =>
        wpAny (model PySem.Challenge.rw_or0042_01.row.prog w) (ktrTop dp un gd cn cs L a ccd cl outer) (handleBy (.ref e) (envX cn cs L a ccd cl) (.ExceptHandler (some (.Name (Str.ofString "WordFault") np)) none (b₀ :: suite) pos :: rest)) Q E s₃) E s₂) E s' := by
  obtain ⟨Bh, a0, hB, hl, hfl⟩ := R
  have hL : Bh.get? L = none := by
    obtain ⟨_, ⟨L', _, hf, hn', _⟩, _⟩ := hfl.2.2.1
    obtain rfl : L = L' := Option.some.inj hf
    exact hn'
  refine wpAny_looks_onW rfl rfl hfl fun h₄ hheld₄ hsm₄ => ?_
  refine wpAny_landsW hheld₄ fun h₅ hheld hsm₅' => ?_
  have hsm₅ := hsm₄.trans hsm₅'
  have hheld' := flyingW_base hB hheld
  have F₅ := F.of_stays hheld'.1 (hsm.trans hsm₅)
  obtain ⟨ob, hob, hobc⟩ := hheld'.there
  refine wpAny_handleBy_cons (codeAny_handlers_test (nameG_K F₅ X (topRead_of T) (v := .ref 59) (by k_is) ?_ rfl hk hx (by decide))) (by intro q; cases q)
  refine wpAny_excMatches_sub_self (X.keeps F₅.keep _ _ (wf_at _)) hob hobc (by decide) (codeAny_handlers_suite ?_)
  refine lands_againW hheld fun h₆ hfl₆ hsm₆ => ?_
  have hfl₆' := flyingW_base hB hfl₆
  have F₆ := F.of_stays hfl₆'.1 ((hsm.trans hsm₅).trans hsm₆)
  exact wpAny_mono (k h₆ F₆ fun q hq => ⟨hfl₆.1 _ _ (hl q hq).1, (fun z => by have := (hl q hq).1; rw [z, hL] at this; cases this), (hl q hq).2⟩) (fun _ _ x => x) fun _ _ x => x.elim
end
noncomputable def lawTs : List Tk3 := [(.quoted, [97], 5), (.quoted, [], 9), (.sign, [44], 0), (.atom, [98], 2)]
theorem lawTs_ok : okAll (lawTs.map strip) := by
  intro p hp
  have hp' : p ∈ ([(.quoted, [97]), (.quoted, []), (.sign, [44]), (.atom, [98])] : List PTk) := hp
  simp only [List.mem_cons, List.not_mem_nil, or_false] at hp'
  rcases hp' with rfl | rfl | rfl | rfl
  · show ∀ c ∈ ([97] : B), c ≠ 0 ∧ c ≠ 10 ∧ c ≠ 13
    decide
  · show ∀ c ∈ ([] : B), c ≠ 0 ∧ c ≠ 10 ∧ c ≠ 13
    decide
  · exact ⟨44, rfl, by decide⟩
  · exact ⟨by decide, by decide⟩
theorem lawTs_lay : lay none (lawTs.map strip) = [34, 97, 34, 34, 34, 44, 98] := by decide
theorem law_last (w : World) (news : List (Addr × Obj)) (lt : Addr) (vs : List Value) (c : Nat) (hm : (lt, listOf vs.toArray c) ∈ news) (hall : DatAll news vs (lawTs.map tokD)) :
    Tell w news 160 [.ref lt] 6 48 (fun v news' => news' = news ∧ ∃ t, v = .bytes (List.toArray [34, 97, 34, 34, 34, 44, 98]) t) := by
  have h := show_tokens_tell w news lt vs c lawTs hm hall lawTs_ok (by
    intro x hx
    have hx' : x ∈ ([(.quoted, [97], 5), (.quoted, [], 9), (.sign, [44], 0), (.atom, [98], 2)] : List Tk3) := hx
    simp only [List.mem_cons, List.not_mem_nil, or_false] at hx'
    rcases hx' with rfl | rfl | rfl | rfl <;> decide) (by decide) (by rw [lawTs_lay]; decide)
  rw [lawTs_lay] at h
  exact h
end
theorem fresh_L1 : ite True True True := by
  try (walk1; fail)
  w_top off
  exact trivial
section
local macro_rules | `(tactic| k_all) => `(tactic| assumption)
local macro_rules | `(tactic| walk_at "call ref") => `(tactic| ((with_reducible show wpAny _ _ (call (Value.ref 167) _) _ _ _); k_dflt (refine' Tell.use (Tell.at (take_tell _ (_ :: _ :: _) _ _ _ _ _ (by assumption) ?kH (by decide) (by decide)) news_rot3) ?k1 ?k2 ?k3 ?k4 ?k5 ?kK ?kd ?ku ?_; (case k1 => k_asm); (case k2 => k_asm); (case k3 => k_asm); (case k4 => k_asm); (case k5 => k_asm); (case kH => k_all); (case kK => first | exact rfl | assumption); (case kd => ktr_room); (case ku => ktr_units)); (intro v9 n9 h9 tk9 p9 F9 N9; obtain ⟨d9, t9, vs9, m9, e9, d9a, e8, p9'⟩ := p9; subst v9; subst n9); (try dsimp only); (try k_sweep); (try k_fold)))
local macro_rules | `(tactic| walk_at "call ref") => `(tactic| ((with_reducible show wpAny _ _ (call (Value.ref 167) _) _ _ _); k_dflt (refine' Tell.use (Tell.at (take_tell _ (_ :: _) _ _ _ _ _ (by assumption) ?kH (by decide) (by decide)) news_swap) ?k1 ?k2 ?k3 ?k4 ?k5 ?kK ?kd ?ku ?_; (case k1 => k_asm); (case k2 => k_asm); (case k3 => k_asm); (case k4 => k_asm); (case k5 => k_asm); (case kH => k_all); (case kK => first | exact rfl | assumption); (case kd => ktr_room); (case ku => ktr_units)); (intro v9 n9 h9 tk9 p9 F9 N9; obtain ⟨d9, t9, vs9, m9, e9, d9a, e8, p9'⟩ := p9; subst v9; subst n9); (try dsimp only); (try k_sweep); (try k_fold)))
local macro_rules | `(tactic| walk_at "call ref") => `(tactic| ((with_reducible show wpAny _ _ (call (Value.ref 167) _) _ _ _); k_dflt (refine' Tell.use (take_tell _ _ _ _ _ _ _ (by assumption) ?kH (by decide) (by decide)) ?k1 ?k2 ?k3 ?k4 ?k5 ?kK ?kd ?ku ?_; (case k1 => k_asm); (case k2 => k_asm); (case k3 => k_asm); (case k4 => k_asm); (case k5 => k_asm); (case kH => k_all); (case kK => first | exact rfl | assumption); (case kd => ktr_room); (case ku => ktr_units)); (intro v9 n9 h9 tk9 p9 F9 N9; obtain ⟨d9, t9, vs9, m9, e9, d9a, e8, p9'⟩ := p9; subst v9; subst n9); (try dsimp only); (try k_sweep); (try k_fold)))
local macro_rules | `(tactic| walk_at "CompSrc") => `(tactic| with_reducible refine stop ?_)
local macro_rules | `(tactic| walk_at "call ref") => `(tactic| ((with_reducible show wpAny _ _ (call (Value.ref 181) _) _ _ _); k_dflt (refine' Tell.use (Tell.at (token_law_tell _ (_ :: _ :: _ :: _) _ _ _ (by assumption) ?kH) news_rot4) ?k1 ?k2 ?k3 ?k4 ?k5 ?kK ?kd ?ku ?_; (case k1 => k_asm); (case k2 => k_asm); (case k3 => k_asm); (case k4 => k_asm); (case k5 => k_asm); (case kH => k_all); (case kK => first | exact rfl | assumption); (case kd => ktr_room); (case ku => ktr_units)); (intro v9 n9 h9 tk9 p9 F9 N9; obtain ⟨q9, nq9, kd9, wo9, t9, u9, vs9, m9, e9, d9a, d9b, e8, p9'⟩ := p9; subst v9; subst n9); (try dsimp only); (try k_sweep); (try k_fold)))
local macro_rules | `(tactic| walk_at "call ref") => `(tactic| ((with_reducible show wpAny _ _ (call (Value.ref 188) _) _ _ _); k_dflt (refine' Tell.use (shown_law_tell _ _ _ _ _ _ _ _ ?kM ?kA) ?k1 ?k2 ?k3 ?k4 ?k5 ?kK ?kd ?ku ?_; (case k1 => k_asm); (case k2 => k_asm); (case k3 => k_asm); (case k4 => k_asm); (case k5 => k_asm); (case kM => k_mem); (case kA => assumption); (case kK => first | exact rfl | assumption); (case kd => ktr_room); (case ku => ktr_units)); (intro v9 n9 h9 tk9 p9 F9 N9; obtain ⟨e9, t9, e8⟩ := p9; subst n9; subst v9); (try dsimp only); (try k_sweep); (try k_fold)))
local macro_rules | `(tactic| walk_at "subscriptTail") => `(tactic| (k_here; (with_reducible show wpAny _ _ (subscriptTail _ _ (Value.ref _) (Value.int (Nat.cast (_ + 1) - 1) _)) _ _ _); k_dflt (refine' my_litem1 ?k1 ?k2 ?k4 ?k5 ?_; (case k1 => k_asm); (case k4 => assumption); (case k2 => k_mem); (case k5 => omega))))
local macro_rules | `(tactic| walk_at "call builtin:list.append") => `(tactic| with_reducible refine stop ?_)
local macro_rules | `(tactic| walk_at "eval ListComp") => `(tactic| ((with_reducible show wpAny _ _ (eval (Expr.ListComp _ [⟨Expr.Tuple _ _ _, _, _, _⟩] _ _) _) _ _ _); with_reducible refine stop ?_))
local macro_rules | `(tactic| walk_at "compareOp NotIn str ref") => `(tactic| (k_here; (with_reducible show wpAny _ _ (compareOp CmpOp.NotIn (Value.str (Kd.str _) _) (Value.ref _)) _ _ _); k_dflt (refine' my_notinAS ?N ?m ?_; (case N => k_asm); (case m => k_mem))))
local macro_rules | `(tactic| walk_at "compareOp In int bytes") => `(tactic| (k_here; (with_reducible show wpAny _ _ (compareOp CmpOp.In (Value.int 0 _) (Value.bytes (List.toArray _) _)) _ _ _); k_dflt (refine my_inI (x := 0) (by decide) ?_)))
local macro_rules | `(tactic| walk_at "compareOp In int bytes") => `(tactic| (k_here; (with_reducible show wpAny _ _ (compareOp CmpOp.In (Value.int 10 _) (Value.bytes (List.toArray _) _)) _ _ _); k_dflt (refine my_inI (x := 10) (by decide) ?_)))
local macro_rules | `(tactic| walk_at "compareOp NotEq ref ref") => `(tactic| with_reducible refine stop ?_)
theorem law_zero : PySem.Challenge.rw_or0042_01.Holds := hd (by
  k_go0
  all_goals try k_fold
  repeat' (first | (k_unfold; (try dsimp only)) | (walk1; (try dsimp only)))
  refine unstop ?_
  (with_reducible rename Fr _ _ _ _ => F1)
  (with_reducible rename News _ _ _ _ => N1)
  (rename IntsAre _ (List.take 24 _) => hI1)
  (rename List.length (List.take 24 _) = _ => hI2)
  have hws : ∀ v ∈ _, ∃ k t, v = Value.int k t := ints_all hI1
  have hwl := hI1.length
  rw [hI2] at hwl
  k_dflt (refine comp_keep (fun i ys => ys.length ≤ i ∧ ∀ v ∈ ys, ∃ k t, v = Value.int k t) rfl F1 N1 (.head _) ?_ ⟨Nat.le_refl _, fun _ h => nomatch h⟩ ?_ ?_)
  · rw [List.size_toArray]
    omega
  · intro i ys v I oI C oC D m₂ h tk E' hv hP hC hx F' N' off ne
    obtain ⟨k, t, rfl⟩ := hws v (List.mem_of_getElem? (by simpa using hv))
    clear F1 N1
    repeat' (first | (k_unfold; (try dsimp only)) | (walk1; (try dsimp only)))
    (with_reducible rename Fr _ _ _ _ => F3)
    (with_reducible rename News _ _ _ _ => N3)
    refine LCg.CompEnd.intro F3 N3 _ (fun _ h => h) off (.inr ⟨_, .head _, rfl, _, rfl⟩) ⟨rfl, ?_, ?_⟩
    · rw [List.length_append]
      have := hP.1
      simp only [List.length_cons, List.length_nil]
      omega
    · intro v hv
      rcases List.mem_append.mp hv with hv | hv
      · exact hP.2 v hv
      · rw [List.mem_singleton.mp hv]
        exact ⟨_, _, rfl⟩
  · intro g ys hP
    rw [List.size_toArray] at hP
    have hpool : PoolOk ys := ⟨by omega, hP.2⟩
    clear hP hI1 hI2 hwl
    intro Dp h2 tk2 F2 N2 off2
    simp only [LCg.Off1] at off2
    clear F1 N1
    try dsimp only
    repeat' (first | (k_unfold; (try dsimp only)) | (walk1; (try dsimp only)))
    refine unstop ?_
    (with_reducible rename Fr _ _ _ _ => F1)
    (with_reducible rename News _ _ _ _ => N1)
    (rename IsRange _ _ _ _ _ _ _ _ => hR)
    (rename Dig _ 10 => hd10)
    (rename PoolOk _ => hpl)
    (rename Obj.data _ = Data.cell (some _) => hcell)
    obtain ⟨kd, rfl, hkd⟩ := hd10.nat
    (rename Shared => s1)
    obtain ⟨oc, hoc, N1'⟩ := drop_slice N1 hcell
    have hD1 := off2.1
    have hD2 := off2.2.1
    k_dflt (refine comp_range (n := kd) (fun i ys nx => ∃ (vs : List Value) (n : Nat) (objs : List (Addr × Obj)) (plan : List (Kd × B)), nx = (Dp, listOf vs.toArray n) :: (objs ++ [(s1.heap.objs.size + 1, oc)]) ∧ PoolOk vs ∧ (∀ p ∈ objs, p.1 ≠ Dp) ∧ plan.length = i ∧ ys.length = i ∧ (∀ p ∈ plan, PlanOk p.1 p.2) ∧ DatAll objs ys (plan.map planD)) rfl F1 N1' hR rfl (by omega) ⟨_, _, [], [], rfl, hpl, (fun _ h => nomatch h), rfl, rfl, (fun _ h => nomatch h), .nil⟩ ?turn ?fin)
    case turn =>
      rintro i ys nx v I oI C oC D m₂ h tk E' hi ⟨vs, n, objs, plan, rfl, hpo, hob, hpl, hyl, hpk, hda⟩ hC hx F' N' off ne
      clear F1 N1 N1' hR
      simp only [LCg.Off3] at off
      obtain ⟨⟨nI, nC, nD⟩, off'⟩ := off
      have hDpc : s1.heap.objs.size + 1 ≠ Dp := hD2
      have hnall : ∀ p ∈ (I, oI) :: (C, oC) :: (D, LCg.lst ys) :: (objs ++ [(s1.heap.objs.size + 1, oc)]), p.1 ≠ Dp := List.forall_mem_cons.mpr ⟨nI.symm, List.forall_mem_cons.mpr ⟨nC.symm, List.forall_mem_cons.mpr ⟨nD.symm, fun p hp => by
        rcases List.mem_append.mp hp with hp | hp
        · exact hob p hp
        · rw [List.mem_singleton.mp hp]; exact hDpc⟩⟩⟩
      have hcm : (s1.heap.objs.size + 1, oc) ∈ (I, oI) :: (C, oC) :: (D, LCg.lst ys) :: (Dp, listOf vs.toArray n) :: (objs ++ [(s1.heap.objs.size + 1, oc)]) := .tail _ (.tail _ (.tail _ (.tail _ (List.mem_append_right _ (.head _)))))
      try dsimp only
      repeat' (first | (k_unfold; (try dsimp only)) | (walk1; (try dsimp only)))
      (with_reducible rename Fr _ _ _ _ => F3)
      (with_reducible rename News _ _ _ _ => N3)
      (rename PlanOk _ _ => hpk9)
      (rename PoolOk _ => hpo9)
      (rename ∀ p : Addr × Obj, p ∈ _ → p.1 ≠ _ => hq9)
      have hqI := hq9 _ (.head _)
      have hqC := hq9 _ (.tail _ (.head _))
      have hqD := hq9 _ (.tail _ (.tail _ (.head _)))
      have hqp := news_apart N3 (.head _) (.tail _ (.head _)) (fun e => by injection e with e; revert e; decide)
      exact LCg.CompEnd.intro F3 N3 ((Dp, _) :: (((_, _) :: objs) ++ [(s1.heap.objs.size + 1, oc)])) plan_turn ⟨⟨nI, nC, nD⟩, ⟨hqI.symm, hqC.symm, hqD.symm⟩, off'⟩ trivial ⟨_, _, (_, _) :: objs, plan ++ [(_, _)], rfl, hpo9, List.forall_mem_cons.mpr ⟨hqp, hob⟩, len_snoc hpl, len_snoc hyl, plan_snoc hpk hpk9, plan_dat hda⟩
    case fin =>
      rintro g ys nx ⟨vs, n, objs, plan, rfl, hpo, hob, hpl, hyl, hpk, hda⟩ Dl h3 tk3 F3 N3 off3
      simp only [LCg.Off1] at off3
      clear F1 N1 N1' hR
      try dsimp only
      repeat' (first | (k_unfold; (try dsimp only)) | (walk1; (try dsimp only)))
      (with_reducible rename Fr _ _ _ _ => F1)
      (with_reducible rename News _ _ _ _ => N1)
      refine unstop ?_
      (rename Dl < _ ∧ Dp < _ ∧ AllLt _ _ => hl1)
      obtain ⟨lt, rfl, hl1⟩ := name_it (fun x => Dl < x ∧ Dp < x ∧ AllLt x (objs ++ [(s1.heap.objs.size + 1, oc)])) hl1
      have hyl10 : ys.length ≤ 9 := by omega
      (with_unfolding_all refine' For_invVF F1 ?k1 ?k2 ?_; (case k1 => exact rfl); (case k2 => exact rfl))
      k_steps
      try clear F1 N1
      (with_reducible rename Fr _ _ _ _ => F1)
      (with_reducible rename News _ _ _ _ => N1)
      (rename IsRange _ _ _ _ _ _ _ _ => hR)
      refine unstop ?_
      have hobl : ∀ p ∈ objs, p.1 ≠ lt := fun p hp => Nat.ne_of_lt (allLt_mem hl1.2.2 p (List.mem_append_left _ hp))
      have hDl : Dl ≠ lt := Nat.ne_of_lt hl1.1
      have hll : ∀ i, (lay none (plan.take i)).length ≤ 200 := fun i => by
        have h1 := lay_le (plan.take i) none fun p hp => hpk p (List.mem_of_mem_take hp)
        have h2 : (plan.take i).length ≤ plan.length := by simp; omega
        omega
      refine my_range (n := ys.length) (fun i m nx => ∃ (vs' : List Value) (c : Nat) (toks : List (Addr × Obj)), nx = (lt, listOf vs'.toArray c) :: (toks ++ ((Dl, LCg.lst ys) :: objs)) ∧ DatAll toks vs' ((offs none 0 (plan.take i)).map tokD) ∧ (∀ p ∈ toks ++ ((Dl, LCg.lst ys) :: objs), p.1 ≠ lt) ∧
        AllAt m [(Str.ofString "plan", .ref Dl), (Str.ofString "tokens", .ref lt)] ∧ ∃ t, m (Str.ofString "octets") = some (.bytes (lay none (plan.take i)).toArray t))
        rfl hR (by simp) (by omega) F1 (kst_newsOf N1 start_sub) ⟨[], 0, [], rfl, .nil, List.forall_mem_cons.mpr ⟨hDl, hobl⟩, ⟨rfl, rfl, trivial⟩, _, rfl⟩ ?_ ?_
      · rintro i ti m₁ nx h₁ tk₁ own hi hoff ⟨vs', c, toks, hnx, htk, hne, hm', toc, hmo⟩ F₁ N₁
        subst nx
        have hip : i < plan.length := by omega
        obtain ⟨q, n1, t2, t3, hq, hqm⟩ := plan_at hda hip
        have hli := hll i
        have hne1 : True → ∀ p ∈ toks ++ ((Dl, LCg.lst ys) :: objs) ++ own, p.1 ≠ lt := fun _ p hp => by
          rcases List.mem_append.mp hp with hp | hp
          · exact hne p hp
          · exact hoff p hp lt (.head _)
        have hvl : vs'.length = i := by
          rw [htk.length, List.length_map, offs_length, List.length_take]
          omega
        have hsz0 : vs'.toArray.size ≤ 16777216 := by rw [List.size_toArray]; omega
        have hpi := plan_len (hpk _ (List.getElem_mem hip))
        have hwz : (plan[i]).2.length ≤ 1000 := by omega
        have hsh := shown_le (plan[i]).1 (plan[i]).2
        have F₂ := ats F₁ (ps := [(Str.ofString "spot", .int (i : Int) ti), (Str.ofString "plan", .ref Dl), (Str.ofString "octets", .bytes (lay none (plan.take i)).toArray toc), (Str.ofString "tokens", .ref lt)]) ⟨rfl, hm'.1, hmo, hm'.2.1, trivial⟩
        have N₂ : News _ _ h₁ ((lt, listOf vs'.toArray c) :: (toks ++ ((Dl, LCg.lst ys) :: objs) ++ own)) := N₁
        clear F₁ N₁
        try clear F1 N1 hR
        have hmL : (Dl, listOf ys.toArray ys.length) ∈ toks ++ ((Dl, LCg.lst ys) :: objs) ++ own := List.mem_append_left _ (List.mem_append_right _ (.head _))
        have hqL : (q, tup2 (.str (plan[i]).1.str t2) (.bytes (plan[i]).2.toArray t3) n1) ∈ toks ++ ((Dl, LCg.lst ys) :: objs) ++ own := List.mem_append_left _ (List.mem_append_right _ (.tail _ hqm))
        obtain ⟨kd, wo, hki⟩ : ∃ kd wo, plan[i] = (kd, wo) := ⟨_, _, rfl⟩
        rw [hki] at hqL hwz hsh
        dsimp only at hqL hwz hsh
        have hlay := lay_turn hip hki
        rcases i with _ | i
        · have hg : gap (lastOr none (plan.take 0)) kd = [] := by simp [lastOr, gap]
          rw [hg, List.nil_append] at hlay
          k_steps
          all_goals refine unstop ?_
          (with_reducible rename News _ _ _ _ => N3)
          (with_reducible rename Fr _ _ _ _ => F3)
          (rename lt < _ ∧ AllLt _ _ => l9)
          have hD3 := news_apart N3 (.head _) (.tail _ (.head _)) (fun e => by injection e with e; revert e; decide)
          refine my_append_ne (s := ⟨_, _, _, _, _⟩) (rest := (_, _) :: (toks ++ ((Dl, LCg.lst ys) :: objs) ++ own)) F3 N3 (.tail _ (.head _)) (List.forall_mem_cons.mpr ⟨hD3, hne1 trivial⟩) (List.forall_mem_cons.mpr ⟨.head _, fun p hp => .tail _ (.tail _ hp)⟩) hsz0 (fun h' F' N' => ?_)
          clear N3 F3
          k_steps
          (with_reducible rename News _ _ _ _ => N3)
          (with_reducible rename Fr _ _ _ _ => F3)
          rw [List.push_toArray] at N3
          exact InvEndG.intro (nx := (lt, listOf (vs' ++ [_]).toArray _) :: (((_, _) :: toks) ++ ((Dl, LCg.lst ys) :: objs))) F3 N3 ⟨vs' ++ [_], _, (_, _) :: toks, rfl, toks_dat hip hki htk (by rw [hg]; rfl), List.forall_mem_cons.mpr ⟨hD3, fun p hp => hne1 trivial p (List.mem_append_left _ hp)⟩, ⟨rfl, rfl, trivial⟩, _, (by rw [hlay]; exact rfl)⟩ (own_off hoff l9.2) turn_sub (fun p hp => .tail _ (.tail _ (List.mem_append_right _ hp)))
        · have hi' : i < plan.length := by omega
          obtain ⟨q0, n0, s2, s3, hq0, hqm0⟩ := plan_at hda hi'
          have hqL0 : (q0, tup2 (.str (plan[i]).1.str s2) (.bytes (plan[i]).2.toArray s3) n0) ∈ toks ++ ((Dl, LCg.lst ys) :: objs) ++ own := List.mem_append_left _ (List.mem_append_right _ (.tail _ hqm0))
          have hlast : lastOr none (plan.take (i + 1)) = some (plan[i]).1 := by
            rw [List.take_add_one, List.getElem?_eq_getElem hi']
            exact lastOr_snoc _ _ _
          generalize (plan[i]).1 = kd0 at *
          generalize (plan[i]).2 = wo0 at *
          have hatom : ((Kd.atom).str == Str.ofString "atom") = true := by decide
          by_cases hk1 : kd = .atom
          · subst hk1
            by_cases hk0 : kd0 = .atom
            · subst hk0
              have hg : gap (lastOr none (plan.take (i + 1))) .atom = [32] := by rw [hlast]; rfl
              rw [hg, ← List.append_assoc] at hlay
              have hli2 : (lay none (plan.take (i + 1)) ++ [32]).length ≤ 300 := by rw [List.length_append]; simp only [List.length_cons, List.length_nil]; omega
              k_steps
              all_goals refine unstop ?_
              (with_reducible rename News _ _ _ _ => N3)
              (with_reducible rename Fr _ _ _ _ => F3)
              (rename lt < _ ∧ AllLt _ _ => l9)
              have hD3 := news_apart N3 (.head _) (.tail _ (.head _)) (fun e => by injection e with e; revert e; decide)
              refine my_append_ne (s := ⟨_, _, _, _, _⟩) (rest := (_, _) :: (toks ++ ((Dl, LCg.lst ys) :: objs) ++ own)) F3 N3 (.tail _ (.head _)) (List.forall_mem_cons.mpr ⟨hD3, hne1 trivial⟩) (List.forall_mem_cons.mpr ⟨.head _, fun p hp => .tail _ (.tail _ hp)⟩) hsz0 (fun h' F' N' => ?_)
              clear N3 F3
              k_steps
              (with_reducible rename News _ _ _ _ => N3)
              (with_reducible rename Fr _ _ _ _ => F3)
              rw [List.push_toArray] at N3
              exact InvEndG.intro (nx := (lt, listOf (vs' ++ [_]).toArray _) :: (((_, _) :: toks) ++ ((Dl, LCg.lst ys) :: objs))) F3 N3 ⟨vs' ++ [_], _, (_, _) :: toks, rfl, toks_dat hip hki htk (by rw [hg, List.length_append]), List.forall_mem_cons.mpr ⟨hD3, fun p hp => hne1 trivial p (List.mem_append_left _ hp)⟩, ⟨rfl, rfl, trivial⟩, _, (by rw [hlay]; exact rfl)⟩ (own_off hoff l9.2) turn_sub (fun p hp => .tail _ (.tail _ (List.mem_append_right _ hp)))
            · have hk0' := not_atom_str kd0 hk0
              have hg : gap (lastOr none (plan.take (i + 1))) .atom = [] := by rw [hlast]; unfold gap; rw [if_neg fun x => hk0 (Option.some.inj x.1)]
              rw [hg, List.nil_append] at hlay
              k_steps
              all_goals refine unstop ?_
              (with_reducible rename News _ _ _ _ => N3)
              (with_reducible rename Fr _ _ _ _ => F3)
              (rename lt < _ ∧ AllLt _ _ => l9)
              have hD3 := news_apart N3 (.head _) (.tail _ (.head _)) (fun e => by injection e with e; revert e; decide)
              refine my_append_ne (s := ⟨_, _, _, _, _⟩) (rest := (_, _) :: (toks ++ ((Dl, LCg.lst ys) :: objs) ++ own)) F3 N3 (.tail _ (.head _)) (List.forall_mem_cons.mpr ⟨hD3, hne1 trivial⟩) (List.forall_mem_cons.mpr ⟨.head _, fun p hp => .tail _ (.tail _ hp)⟩) hsz0 (fun h' F' N' => ?_)
              clear N3 F3
              k_steps
              (with_reducible rename News _ _ _ _ => N3)
              (with_reducible rename Fr _ _ _ _ => F3)
              rw [List.push_toArray] at N3
              exact InvEndG.intro (nx := (lt, listOf (vs' ++ [_]).toArray _) :: (((_, _) :: toks) ++ ((Dl, LCg.lst ys) :: objs))) F3 N3 ⟨vs' ++ [_], _, (_, _) :: toks, rfl, toks_dat hip hki htk (by rw [hg]; rfl), List.forall_mem_cons.mpr ⟨hD3, fun p hp => hne1 trivial p (List.mem_append_left _ hp)⟩, ⟨rfl, rfl, trivial⟩, _, (by rw [hlay]; exact rfl)⟩ (own_off hoff l9.2) turn_sub (fun p hp => .tail _ (.tail _ (List.mem_append_right _ hp)))
          · have hk1' := not_atom_str kd hk1
            have hg : gap (lastOr none (plan.take (i + 1))) kd = [] := by unfold gap; rw [if_neg fun x => hk1 x.2]
            rw [hg, List.nil_append] at hlay
            k_steps
            all_goals refine unstop ?_
            (with_reducible rename News _ _ _ _ => N3)
            (with_reducible rename Fr _ _ _ _ => F3)
            (rename lt < _ ∧ AllLt _ _ => l9)
            have hD3 := news_apart N3 (.head _) (.tail _ (.head _)) (fun e => by injection e with e; revert e; decide)
            refine my_append_ne (s := ⟨_, _, _, _, _⟩) (rest := (_, _) :: (toks ++ ((Dl, LCg.lst ys) :: objs) ++ own)) F3 N3 (.tail _ (.head _)) (List.forall_mem_cons.mpr ⟨hD3, hne1 trivial⟩) (List.forall_mem_cons.mpr ⟨.head _, fun p hp => .tail _ (.tail _ hp)⟩) hsz0 (fun h' F' N' => ?_)
            clear N3 F3
            k_steps
            (with_reducible rename News _ _ _ _ => N3)
            (with_reducible rename Fr _ _ _ _ => F3)
            rw [List.push_toArray] at N3
            exact InvEndG.intro (nx := (lt, listOf (vs' ++ [_]).toArray _) :: (((_, _) :: toks) ++ ((Dl, LCg.lst ys) :: objs))) F3 N3 ⟨vs' ++ [_], _, (_, _) :: toks, rfl, toks_dat hip hki htk (by rw [hg]; rfl), List.forall_mem_cons.mpr ⟨hD3, fun p hp => hne1 trivial p (List.mem_append_left _ hp)⟩, ⟨rfl, rfl, trivial⟩, _, (by rw [hlay]; exact rfl)⟩ (own_off hoff l9.2) turn_sub (fun p hp => .tail _ (.tail _ (List.mem_append_right _ hp)))
      · rintro m₁ nx h₁ tk₁ ⟨vs', c, toks, hnx, htk, hne, hm', toc, hmo⟩ F₁ N₁
        subst nx
        have hpy : ys.length = plan.length := by rw [hyl, hpl]
        rw [hpy, List.take_length] at htk hmo
        have F₂ := ats F₁ (ps := [(Str.ofString "plan", .ref Dl), (Str.ofString "octets", .bytes (lay none plan).toArray toc), (Str.ofString "tokens", .ref lt)]) ⟨hm'.1, hmo, hm'.2.1, trivial⟩
        have N₂ : News _ _ h₁ ((lt, listOf vs'.toArray c) :: (toks ++ ((Dl, LCg.lst ys) :: objs))) := N₁
        clear F₁ N₁
        try clear F1 N1 hR
        try dsimp only
        repeat' (first | (k_unfold; (try dsimp only)) | (walk1; (try dsimp only)))
        all_goals refine unstop ?_
        (with_reducible rename Fr _ _ _ _ => F1)
        (with_reducible rename News _ _ _ _ => N1)
        k_dflt (refine pair_comp F1 (by with_unfolding_all rfl) (by decide) (by rfl) (by decide) (by rfl) (by rfl) (by decide) ?_)
        repeat' ((with_reducible show wpAny _ _ _ _ _ _); first | k_unfold | walk1)
        refine ⟨Dl, _, _, _, (fun i zs => zs.isEmpty = !((plan.take i).any badT)), rfl, rfl, (by assumption), (by assumption), .tail _ (List.mem_append_right _ (.head _)), ?_, rfl, ?_, ?_⟩
        · rw [List.size_toArray]
          omega
        · intro i v zs hv hJ
          have hlt : i < ys.toArray.size := (Array.getElem?_eq_some_iff.mp hv).1
          rw [List.size_toArray] at hlt
          have hip : i < plan.length := by omega
          obtain ⟨q, n1, t2, t3, hq, hqm⟩ := plan_at hda hip
          have hvq : v = .ref q := by
            rw [List.getElem?_toArray, hq] at hv
            exact (Option.some.inj hv).symm
          have hstep : (plan.take (i + 1)).any badT = ((plan.take i).any badT || badT plan[i]) := by
            rw [List.take_add_one, List.getElem?_eq_getElem hip, List.any_append]
            simp
          refine ⟨q, _, _, n1, hvq, .tail _ (List.mem_append_right _ (.tail _ hqm)), ?_⟩
          intro I oI C oC D m₂ h tk E' hC ha hb F' N' off ne
          clear F1 N1 hqm
          generalize plan[i] = pi at *
          obtain ⟨kd, wo⟩ := pi
          dsimp only at ha hb
          have hbt : badT (kd, wo) = (kd.body && (wo.contains 0 || wo.contains 10)) := rfl
          cases hkb : kd.body <;> cases h0 : wo.contains 0 <;> cases h10 : wo.contains 10 <;> rw [hkb, h0, h10] at hbt
          all_goals repeat' (first | (k_unfold; (try dsimp only)) | (walk1; (try dsimp only)))
          all_goals (with_reducible rename Fr _ _ _ _ => F3)
          all_goals (with_reducible rename News _ _ _ _ => N3)
          all_goals replace hJ : zs.isEmpty = !((plan.take i).any badT) := hJ
          all_goals first
            | exact LCg.CompEnd.intro F3 N3 _ (fun _ h => .tail _ h) off trivial ⟨rfl, by rw [hstep, hbt, hJ]; simp⟩
            | exact LCg.CompEnd.intro F3 N3 _ (fun _ h => .tail _ h) off trivial ⟨rfl, by rw [hstep, hbt]; simp⟩
        · intro ys' hJ' Db h tk F N off1
          replace hJ' : ys'.isEmpty = !(plan.any badT) := by
            have e := hJ'
            rw [List.size_toArray, hpy, List.take_length] at e
            exact e
          clear F1 N1
          try dsimp only
          repeat' (first | (k_unfold; (try dsimp only)) | (walk1; (try dsimp only)))
          refine unstop ?_
          (with_reducible rename Fr _ _ _ _ => F3)
          (with_reducible rename News _ _ _ _ => N3)
          refine list_ne_nil N3 (.tail _ (.head _)) (.head _) (by ktr_units) ?_
          rw [hJ', Bool.not_not]
          cases hany : plan.any badT
          all_goals repeat' (first | (k_unfold; (try dsimp only)) | (walk1; (try dsimp only)))
          all_goals refine wpAny_Try_except ?_
          all_goals repeat' (first | (k_unfold; (try dsimp only)) | (walk1; (try dsimp only)))
          · refine unstop ?_
            clear F3 N3
            (with_reducible rename Fr _ _ _ _ => F3)
            (with_reducible rename News _ _ _ _ => N3)
            k_dflt (refine' Tell.use (law_show _ _ lt vs' c plan ?kM ?kA hpk ?kO hany) ?k1 ?k2 ?k3 ?k4 ?k5 ?kK ?kd ?ku ?_; (case k1 => k_asm); (case k2 => k_asm); (case k3 => k_asm); (case k4 => k_asm); (case k5 => k_asm); (case kM => first | exact .head _ | k_mem | exact .tail _ (.tail _ (.head _))); (case kA => first | exact htk.mono fun p hp => .tail _ (List.mem_append_left _ hp) | exact htk.mono fun p hp => .tail _ (.tail _ (.tail _ (List.mem_append_left _ hp)))); (case kO => omega); (case kK => exact rfl); (case kd => ktr_room); (case ku => ktr_units))
            intro v9 n9 h9 tk9 p9 F9 N9
            obtain ⟨e9, t9, e8⟩ := p9
            subst n9
            subst v9
            clear F3 N3
            try dsimp only
            repeat' (first | (k_unfold; (try dsimp only)) | (walk1; (try dsimp only)))
            refine unstop ?_
            (with_reducible rename Fr _ _ _ _ => F3)
            (with_reducible rename News _ _ _ _ => N3)
            k_dflt (refine' Tell.use (law_tokens _ _ _ plan hpk ?kO hany) ?k1 ?k2 ?k3 ?k4 ?k5 ?kK ?kd ?ku ?_; (case k1 => k_asm); (case k2 => k_asm); (case k3 => k_asm); (case k4 => k_asm); (case k5 => k_asm); (case kO => omega); (case kK => exact rfl); (case kd => ktr_room); (case ku => ktr_units))
            intro v9 n9 h9 tk9 p9 F9 N9
            obtain ⟨l9, vs9, c9, tl9, e9, e8, htk9⟩ := p9
            subst n9
            subst v9
            clear F3 N3
            try dsimp only
            repeat' (first | (k_unfold; (try dsimp only)) | (walk1; (try dsimp only)))
            refine unstop ?_
            (with_reducible rename Fr _ _ _ _ => F3)
            (with_reducible rename News _ _ _ _ => N3)
            k_dflt (refine toks_ne N3 (.head _) (.tail _ (List.mem_append_right _ (.tail _ (.tail _ (.head _))))) htk9 (fun p hp => .tail _ (List.mem_append_left _ hp)) htk (fun p hp => .tail _ (List.mem_append_right _ (.tail _ (.tail _ (.tail _ (List.mem_append_left _ hp)))))) (by ktr_units) ?_)
            repeat' (first | (k_unfold; (try dsimp only)) | (walk1; (try dsimp only)))
            refine unstop ?_
            have N4 : News _ _ _ ((lt, listOf vs'.toArray c) :: toks) := kst_newsOf N3 fun p hp => .tail _ (List.mem_append_right _ (by
              rcases List.mem_cons.mp hp with rfl | hp
              · exact .tail _ (.tail _ (.head _))
              · exact .tail _ (.tail _ (.tail _ (List.mem_append_left _ hp)))))
            clear N3
            (with_unfolding_all refine' For_invVF F3 ?k1 ?k2 ?_; (case k1 => exact rfl); (case k2 => exact rfl))
            repeat' (first | (k_unfold; (try dsimp only)) | (walk1; (try dsimp only)))
            refine unstop ?_
            (with_reducible rename Fr _ _ _ _ => F1)
            (with_reducible rename News _ _ _ _ => N1)
            (rename lt < _ ∧ AllLt _ _ => l9)
            have hlz : (lay none plan).length ≤ 200 := by have := hll plan.length; rwa [List.take_length] at this
            have hol : (offs none 0 plan).length ≤ 1000 := by rw [offs_len]; omega
            refine my_tupFor (fun i m nx => nx = (lt, listOf vs'.toArray c) :: toks ∧ AllAt m [(Str.ofString "tokens", .ref lt), (Str.ofString "octets", .bytes (lay none plan).toArray toc)]) rfl F1 N1 (.head _) (fun p hp => .tail _ hp) (List.forall_mem_cons.mpr ⟨Nat.ne_of_lt l9.1, fun p hp => Nat.ne_of_lt (allLt_mem l9.2 p hp)⟩) ⟨rfl, rfl, rfl, trivial⟩ ?_ ?_
            · rintro i v m₂ nx h₂ tk₂ own hv hoff ⟨hnx, hm₂⟩ F₂ N₂
              subst nx
              obtain ⟨sg, tsg, rfl⟩ := three_signs hv
              have F₃ := ats F₂ (ps := [(Str.ofString "sign", .bytes [sg].toArray tsg), (Str.ofString "tokens", .ref lt), (Str.ofString "octets", .bytes (lay none plan).toArray toc)]) ⟨rfl, hm₂.1, hm₂.2.1, trivial⟩
              have N₃ : News _ _ h₂ ((lt, listOf vs'.toArray c) :: (toks ++ own)) := N₂
              clear F₂ N₂ F1 N1
              try dsimp only
              repeat' (first | (k_unfold; (try dsimp only)) | (walk1; (try dsimp only)))
              refine unstop ?_
              (with_reducible rename Fr _ _ _ _ => F3)
              (with_reducible rename News _ _ _ _ => N3)
              k_dflt (refine' Tell.use (split_tokens_tell _ _ lt vs' c (offs none 0 plan) sg tsg ?kM ?kA hol) ?k1 ?k2 ?k3 ?k4 ?k5 ?kK ?kd ?ku ?_; (case k1 => k_asm); (case k2 => k_asm); (case k3 => k_asm); (case k4 => k_asm); (case k5 => k_asm); (case kM => k_mem); (case kA => exact htk.mono fun p hp => .tail _ (List.mem_append_left _ hp)); (case kK => exact rfl); (case kd => ktr_room); (case ku => ktr_units))
              intro v9 n9 h9 tk9 p9 F9 N9
              obtain ⟨lf, gs, kf, e9, e8, hgs⟩ := p9
              subst n9
              subst v9
              clear F3 N3
              try dsimp only
              repeat' (first | (k_unfold; (try dsimp only)) | (walk1; (try dsimp only)))
              refine unstop ?_
              (with_reducible rename Fr _ _ _ _ => F1)
              (with_reducible rename News _ _ _ _ => N1)
              have hgl := Alls.length hgs
              have hpl9 := (parts_len sg (offs none 0 plan)).1
              k_dflt (refine comp_keep (fun i zs => ∃ items : List (B × Tok), zs = bvals items ∧ items.map (·.1) = ((partsOf sg (offs none 0 plan)).take i).map layT) rfl F1 N1 (.head _) ?_ ⟨[], rfl, by simp⟩ ?_ ?_)
              · rw [List.size_toArray, List.length_map, hgl]
                omega
              · intro i zs v I oI C oC D m₃ h tk E' hv hP hC hx F' N' off ne
                obtain ⟨items, rfl, hit⟩ := hP
                have hig : (gs.map Gp.ref)[i]? = some v := by simpa using hv
                have hi2 : i < (partsOf sg (offs none 0 plan)).length := by
                  have := (List.getElem?_eq_some_iff.mp hig).1
                  rw [List.length_map, hgl] at this
                  exact this
                obtain ⟨g, hg, hgd⟩ := Alls.get hgs (List.getElem?_eq_getElem hi2)
                have hvg : v = .ref g.1 := by
                  rw [List.getElem?_map, hg] at hig
                  exact (Option.some.inj hig).symm
                subst hvg
                have hgm : (g.1, listOf g.2.1.toArray g.2.2) ∈ gs.map Gp.obj := List.mem_map.mpr ⟨g, List.mem_of_getElem? hg, rfl⟩
                clear F1 N1
                try dsimp only
                repeat' (first | (k_unfold; (try dsimp only)) | (walk1; (try dsimp only)))
                refine unstop ?_
                (with_reducible rename Fr _ _ _ _ => F3)
                (with_reducible rename News _ _ _ _ => N3)
                k_dflt (refine' Tell.use (law_part _ _ g.1 g.2.1 g.2.2 plan sg _ (List.getElem_mem hi2) ?kM ?kA hpk ?kO hany) ?k1 ?k2 ?k3 ?k4 ?k5 ?kK ?kd ?ku ?_; (case k1 => k_asm); (case k2 => k_asm); (case k3 => k_asm); (case k4 => k_asm); (case k5 => k_asm); (case kM => exact .tail _ (.tail _ (.tail _ (.tail _ (List.mem_append_left _ hgm))))); (case kA => exact hgd.mono fun p hp => .tail _ (.tail _ (.tail _ (.tail _ (List.mem_append_right _ hp))))); (case kO => omega); (case kK => exact rfl); (case kd => ktr_room); (case ku => ktr_units))
                intro v9 n9 h9 tk9 p9 F9 N9
                obtain ⟨e9, t9, e8⟩ := p9
                subst n9
                subst v9
                clear F3 N3
                repeat' (k_unfold; (try dsimp only))
                refine LCg.CompEnd.intro F9 N9 _ (fun _ h => h) off (.inr ⟨_, .head _, rfl, _, rfl⟩) ⟨rfl, items ++ [(layT ((partsOf sg (offs none 0 plan))[i]'hi2), t9)], ?_, ?_⟩
                · simp [bvals]
                · rw [List.map_append, hit, List.take_add_one, List.getElem?_eq_getElem hi2, List.map_append]
                  rfl
              · intro g ys hP
                obtain ⟨items, rfl, hit⟩ := hP
                have hjn : jn [sg] (items.map (·.1)) = lay none plan := by
                  rw [hit, List.size_toArray, List.length_map, hgl, List.take_length, parts_lay]
                  show lay none ((offs none 0 plan).map strip) = _
                  rw [offs_strip]
                clear hit
                intro Dq h2 tk2 F2 N2 off2
                simp only [LCg.Off1] at off2
                have N2' : News _ _ h2 ((Dq, listOf (bvals items).toArray (bvals items).length) :: _) := N2
                clear N2 F1 N1
                try dsimp only
                repeat' (first | (k_unfold; (try dsimp only)) | (walk1; (try dsimp only)))
                (with_reducible rename Fr _ _ _ _ => F3)
                (with_reducible rename News _ _ _ _ => N3)
                exact InvEndG.intro (nx := (lt, _) :: toks) F3 N3 ⟨rfl, rfl, rfl, trivial⟩ (by exact hoff) (fun p hp => .tail _ (.tail _ (List.mem_append_right _ (by
                  rcases List.mem_cons.mp hp with rfl | hp
                  · exact .head _
                  · exact .tail _ (List.mem_append_left _ hp))))) (fun p hp => .tail _ (.tail _ (List.mem_append_right _ (.tail _ (List.mem_append_right _ hp)))))
            · rintro m₂ nx h₂ tk₂ ⟨hnx, hm₂⟩ F₂ N₂
              subst nx
              have F₃ := ats F₂ hm₂
              clear F₂ F1 N1
              try dsimp only
              repeat' (first | (k_unfold; (try dsimp only)) | (walk1; (try dsimp only)))
              refine unstop ?_
              (with_reducible rename Fr _ _ _ _ => F3)
              (with_reducible rename News _ _ _ _ => N3)
              k_dflt (refine' Tell.use (law_last _ _ _ _ _ ?kM ?kA) ?k1 ?k2 ?k3 ?k4 ?k5 ?kK ?kd ?ku ?_; (case k1 => k_asm); (case k2 => k_asm); (case k3 => k_asm); (case k4 => k_asm); (case k5 => k_asm); (case kM => exact .head _); (case kA => exact .cons (tok_in (x := (.quoted, [97], 5)) (.tail _ (.tail _ (.tail _ (.tail _ (.head _)))))) (.cons (tok_in (x := (.quoted, [], 9)) (.tail _ (.tail _ (.tail _ (.head _))))) (.cons (tok_in (x := (.sign, [44], 0)) (.tail _ (.tail _ (.head _)))) (.cons (tok_in (x := (.atom, [98], 2)) (.tail _ (.head _))) .nil)))); (case kK => exact rfl); (case kd => ktr_room); (case ku => ktr_units))
              intro v9 n9 h9 tk9 p9 F9 N9
              obtain ⟨e9, t9, e8⟩ := p9
              subst n9
              subst v9
              clear F3 N3
              try dsimp only
              repeat' (first | (k_unfold; (try dsimp only)) | (walk1; (try dsimp only)))
              rw [show (([34, 97, 34, 34, 34, 44, 98] : B) == [34, 97, 34, 34, 34] ++ [44, 98]) = true from by decide]
              wrow_close
          · refine unstop ?_
            clear F3 N3
            (with_reducible rename Fr _ _ _ _ => F3)
            (with_reducible rename News _ _ _ _ => N3)
            k_dflt (refine' TellX.use (law_raise _ _ lt vs' c plan ?kM ?kA hpk ?kO hany) ?k1 ?k2 ?k3 ?k4 ?k5 ?kK ?kd ?ku ?_; (case k1 => k_asm); (case k2 => k_asm); (case k3 => k_asm); (case k4 => k_asm); (case k5 => k_asm); (case kM => first | exact .head _ | k_mem | exact .tail _ (.tail _ (.head _))); (case kA => first | exact htk.mono fun p hp => .tail _ (List.mem_append_left _ hp) | exact htk.mono fun p hp => .tail _ (.tail _ (.tail _ (List.mem_append_left _ hp)))); (case kO => omega); (case kK => exact rfl); (case kd => ktr_room); (case ku => ktr_units))
            intro g9 e9 h9 tk9 Fg R9 U9
            dsimp only
            k_dflt (refine' caught_wf Fg U9 R9 ?k1 ?k2 ?kK ?kx ?_; (case k1 => k_asm); (case k2 => k_asm); (case kK => exact rfl); (case kx => rfl))
            intro h8 F8 N8
            clear F3 N3 Fg R9 U9
            try dsimp only
            repeat' (first | (k_unfold; (try dsimp only)) | (walk1; (try dsimp only)))
            wrow_close)
end
end Mine
theorem PySem.Challenge.cw_or0042_01_holds : PySem.Challenge.rw_or0042_01.Holds :=
  Mine.law_zero
