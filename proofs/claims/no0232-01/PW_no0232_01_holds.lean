import PyProof.Rows.All
import Wide.All
import OpenK.AllK
import Wide.FinOn
import PySem.Challenge.RW_no0232_01
open PySem PySem.W PyProof.Rows PySem.Calls
set_option Elab.async false
set_option maxRecDepth 100000
set_option maxHeartbeats 8000000
namespace Mine
section
noncomputable abbrev P0 : Program := PySem.Challenge.pw_no0232_01
/-- the text's statements but for the names of its files -/
noncomputable def view : Program := { P0 with main := { P0.main with body := (P0.main.body.drop 1).take 2 ++ (P0.main.body.drop 4).take 15 ++ (P0.main.body.drop 20).take 1 ++ P0.main.body.drop 22 } }
theorem boots : opening P0 = plainProg P0.main.scope.names := by kernel_rfl
theorem fences : ∀ s, fenceModules? P0 s = some s := fun s => by kernel_rfl
/-- behind the opening the head is the top's run alone -/
theorem left_of {q : Program} {loose : List Str} {Xt : Shared → Bool} {α : Type} {Yf : Shared → α} {Ya : World → α} {N : Nat} (hN : Nat.ble 600 N = true)
    (h : ∀ w os, (topFrom treeTable P0 w N ⟨boot_heap w.params, Array.mk [], boot_drawn, boot_toks, os⟩).map (fun s => (openSeen q loose (importedModules P0.main.body) Xt true s, Yf s)) = some (openGood q loose, Ya w)) : LeftO P0 q loose Xt Yf Ya N := fun w => by
  obtain ⟨⟨hp, gs, dr, tk, os⟩, hs, e⟩ := Option.map_eq_some_iff.mp (boot_open (p := P0) (N := N) boots hN fences w)
  simp only [Prod.mk.injEq] at e
  obtain ⟨rfl, rfl, rfl, rfl⟩ := e
  unfold openEnds
  rw [hs]
  exact h w os
local macro_rules | `(tactic| o_law) => `(tactic| refine holds_law (by decide +kernel) fun said => ?_)
local macro_rules | `(tactic| o_head $H:term) => `(tactic| (
  refine holds_open (q := Mine.view) (loose := []) (Xt := fun s => xlAt Mine.view [] s && recOk PySem.Challenge.rw_no0232_01.row.toRowW.records s) (XP := XL Mine.view []) (Yf := Hook.obs $H) (Ya := Hook.val $H) (YP := Hook.says $H) (N := 3178) ?hl (Hook.of $H) (Hook.keeps $H)
    (fun s e => xl_of s (Bool.and_eq_true_iff.mp e).1) XL.keeps (by rfl) (by rfl) (by rfl) (fun s e => recFacts_of (Bool.and_eq_true_iff.mp e).2) (by rfl) (by first | assumption | decide +kernel) (by decide +kernel) ⟨rfl, rfl, rfl, rfl, rfl, by decide +kernel⟩ ?hw ?hc
  case hl =>
    refine left_of (by decide) fun w os => ?_
    unfold topFrom
    try rw [PySem.W.Fast.te14082659384304107361, PySem.W.Fast.te14364793385576792824, PySem.W.Fast.te4187177175401517315]
    kernel_rfl))
open_top hd for PySem.Challenge.rw_no0232_01
end
theorem flush_Top1 {prog : Program} {w : World} {A : Around} {env : Env} {Q : Flow → Shared → Prop} {E : Value → Shared → Prop} {s : Shared} (h : wpAny (model prog w) A (execs [] env) Q E s) : wpAny (model prog w) A (execs [] env) Q E s := by
  w_top off
  first | (walk1; fail) | exact h
section
abbrev Tx := List Nat
/-- a text of its signs' numbers -/
def S (l : Tx) : Str := ⟨l.toArray⟩
theorem S_cps (l : Tx) : (S l).cps = l.toArray := rfl
theorem S_list (l : Tx) : (S l).cps.toList = l := rfl
theorem S_len (l : Tx) : (S l).length = l.length := by unfold S Str.length; simp
theorem S_inj {a b : Tx} : S a = S b ↔ a = b := by
  constructor
  · intro h; have := congrArg (fun x : Str => x.cps.toList) h; simpa [S] using this
  · rintro rfl; rfl
theorem S_of (x : Str) : x = S x.cps.toList := by cases x; rfl
theorem S_app (a b : Tx) : S a ++ S b = S (a ++ b) := by
  refine Str.ext' ?_
  rw [Str.cps_append]; simp [S]
theorem S_beq (a b : Tx) : (S a == S b) = decide (a = b) := by
  by_cases h : a = b
  · subst h; simp
  · have : S a ≠ S b := fun e => h (S_inj.mp e)
    simp [h, this]
def nb (l : Tx) : Tx := l.filter (· != 32)
def blanks (n : Nat) : Tx := List.replicate n 32
theorem S_replace (l : Tx) : Txt.replace (S l) (Str.ofString " ") (Str.ofString "") = S (nb l) := by
  refine Str.ext' ?_
  have e1 : (Str.ofString " ") = ⟨#[32]⟩ := by decide +kernel
  have e2 : (Str.ofString "") = ⟨#[]⟩ := by decide +kernel
  rw [e1, e2]
  have := replace_strikes (S l) 32
  apply Array.ext'
  rw [this]; rfl
theorem filterMap_range (l : Tx) : ∀ (a n : Nat), ((List.range n).map (fun k => a + k)).filterMap (l.toArray[·]?) = (l.drop a).take n := by
  intro a n
  induction n with
  | zero => simp
  | succ n ih =>
    rw [List.range_succ, List.map_append, List.filterMap_append, ih, List.take_add_one]
    congr 1
    simp only [List.map_cons, List.map_nil, List.getElem?_drop, List.filterMap_cons, List.filterMap_nil, List.getElem?_toArray]
    cases l[a + n]? <;> rfl
theorem slice_core (l : Tx) (i j : Int) (hi : 0 ≤ i) (hj : 0 ≤ j) : (sliceRange (min i l.length) (min j l.length) 1).filterMap (l.toArray[·]?) = (l.take j.toNat).drop i.toNat := by
  have h1 : sliceRange (min i l.length) (min j l.length) 1 = (List.range ((min j l.length).toNat - (min i l.length).toNat)).map (fun k => (min i l.length).toNat + k) := by
    unfold sliceRange
    simp only [show (1:Int) > 0 by decide, if_true, Int.ediv_one, Int.one_mul]
    have : (if min i ↑l.length < min j ↑l.length then min j ↑l.length - min i ↑l.length + 1 - 1 else 0 : Int).toNat = ((min j l.length).toNat - (min i l.length).toNat) := by
      split <;> omega
    rw [this]
    apply List.map_congr_left
    intro k hk
    omega
  rw [h1, filterMap_range]
  have : (min j (l.length:Int)).toNat = min j.toNat l.length := by omega
  have h2 : (min i (l.length:Int)).toNat = min i.toNat l.length := by omega
  rw [this, h2, List.drop_take]
  by_cases h : i.toNat ≤ l.length
  · rw [Nat.min_eq_left h]
    rcases Nat.le_total j.toNat l.length with h' | h'
    · rw [Nat.min_eq_left h']
    · rw [Nat.min_eq_right h']
      rw [List.take_of_length_le (by simp), List.take_of_length_le (by simp; omega)]
  · have hd : List.drop i.toNat l = [] := List.drop_of_length_le (by omega)
    have hd2 : List.drop (min i.toNat l.length) l = [] := List.drop_of_length_le (by omega)
    rw [hd, hd2]; simp
theorem slice_take (l : Tx) (u : Option Int) (lo : Option Int) (i j : Int) (hi : 0 ≤ i) (hj : 0 ≤ j) (hidx : Builtin.Str.strSliceIndices lo u 1 l.length = sliceRange (min i l.length) (min j l.length) 1) :
    Txt.slice (S l) lo u = S ((l.take j.toNat).drop i.toNat) := by
  have hc := slice_core l i j hi hj
  unfold Txt.slice
  rw [S_len, hidx]
  split
  · rename_i h
    refine Str.ext' ?_
    simp only [beq_self_eq_true, Bool.true_and, beq_iff_eq] at h
    have hl : ((sliceRange (min i l.length) (min j l.length) 1).filterMap (l.toArray[·]?)).length = l.length := by
      have h1 : (sliceRange (min i l.length) (min j l.length) 1).length = (min j (l.length:Int) - min i l.length).toNat := by
        unfold sliceRange
        simp only [show (1:Int) > 0 by decide, if_true, Int.ediv_one, List.length_map, List.length_range]
        split <;> omega
      rw [hc, List.length_drop, List.length_take]
      rw [h1] at h
      omega
    rw [hc] at hl
    have hs : ((l.take j.toNat).drop i.toNat).Sublist l := (List.drop_sublist _ _).trans (List.take_sublist _ _)
    have := hs.eq_of_length hl
    rw [this]
  · show (⟨((sliceRange (min i l.length) (min j l.length) 1).filterMap (l.toArray[·]?)).toArray⟩ : Str) = _
    rw [hc]; rfl
theorem slice_ns (l : Tx) (j : Int) (hj : 0 ≤ j) : Txt.slice (S l) none (some j) = S (l.take j.toNat) := by
  rw [slice_take l (some j) none 0 j (by omega) hj (by
    unfold Builtin.Str.strSliceIndices
    simp only [show (1:Int) > 0 by decide, if_true, if_neg (show ¬ j < 0 by omega)]
    congr 1 <;> omega)]
  rfl
theorem slice_sn (l : Tx) (i : Int) (hi : 0 ≤ i) : Txt.slice (S l) (some i) none = S (l.drop i.toNat) := by
  rw [slice_take l none (some i) i l.length hi (by omega) (by
    unfold Builtin.Str.strSliceIndices
    simp only [show (1:Int) > 0 by decide, if_true, if_neg (show ¬ i < 0 by omega)]
    congr 1 <;> omega)]
  simp
theorem slice_ss (l : Tx) (i j : Int) (hi : 0 ≤ i) (hj : 0 ≤ j) : Txt.slice (S l) (some i) (some j) = S ((l.take j.toNat).drop i.toNat) := by
  rw [slice_take l (some j) (some i) i j hi hj (by
    unfold Builtin.Str.strSliceIndices
    simp only [show (1:Int) > 0 by decide, if_true, if_neg (show ¬ j < 0 by omega), if_neg (show ¬ i < 0 by omega)]
    congr 1 <;> omega)]
theorem foldl_app (n : Nat) : ∀ (a : Array Nat), ((List.replicate n (#[32] : Array Nat)).foldl (· ++ ·) a).toList = a.toList ++ List.replicate n 32 := by
  induction n with
  | zero => intro a; simp
  | succ n ih => intro a; rw [List.replicate_succ, List.foldl_cons, ih]; simp [List.replicate_succ]
theorem S_mul (n : Int) : Txt.mul (Str.ofString " ") n = S (blanks n.toNat) := by
  have e1 : (Str.ofString " ") = ⟨#[32]⟩ := by decide +kernel
  rw [e1]
  unfold Txt.mul
  split
  · rename_i h
    have : n.toNat = 0 := by omega
    rw [this]; rfl
  · split
    · rename_i h1 h2
      have : n = 1 := by simpa [Str.length] using h2
      subst this; rfl
    · refine Str.ext' (Array.ext' ?_)
      show ((List.replicate n.toNat #[32]).foldl (· ++ ·) #[]).toList = _
      rw [foldl_app]; simp [S, blanks]
theorem find_dig (c : Nat) : Txt.find (Str.ofString "0123456789") ⟨#[c]⟩ = if 48 ≤ c ∧ c ≤ 57 then (c : Int) - 48 else -1 := by
  by_cases h : 48 ≤ c ∧ c ≤ 57
  · rw [if_pos h]
    have : c = 48 ∨ c = 49 ∨ c = 50 ∨ c = 51 ∨ c = 52 ∨ c = 53 ∨ c = 54 ∨ c = 55 ∨ c = 56 ∨ c = 57 := by omega
    rcases this with rfl | rfl | rfl | rfl | rfl | rfl | rfl | rfl | rfl | rfl <;> decide +kernel
  · rw [if_neg h]
    have hn : decide (c ∈ (Str.ofString "0123456789").cps.toList) = false := by
      have e : (Str.ofString "0123456789").cps.toList = [48, 49, 50, 51, 52, 53, 54, 55, 56, 57] := by decide +kernel
      rw [e]
      simp
      omega
    have hf := StrLaws.found_one (Str.ofString "0123456789") c
    rw [hn] at hf
    unfold Txt.find
    simp only [Bool.not_eq_false'] at hf
    rw [List.isEmpty_iff.mp hf]
theorem blanks_len (n : Nat) : (blanks n).length = n := by simp [blanks]
end
theorem flush_Txt1 {prog : Program} {w : World} {A : Around} {env : Env} {Q : Flow → Shared → Prop} {E : Value → Shared → Prop} {s : Shared} (h : wpAny (model prog w) A (execs [] env) Q E s) : wpAny (model prog w) A (execs [] env) Q E s := by
  w_top off
  first | (walk1; fail) | exact h
section
noncomputable abbrev VW := Mine.view
noncomputable abbrev LS := looseW Mine.view []
section
variable {prog : Program} {w : World} {A : Around} {E : Value → Shared → Prop} {s : Shared} {h₀ : Heap} {L : Addr} {m : Str → Option Value} {news : List (Addr × Obj)} {x y : Str} {l : Tx} {t u : Tok} {Q : Value → Shared → Prop} {value slice : Expr}
theorem fits_len (h : l.length ≤ 100000) (hx : x = S l) : x.length ≤ sizeLine := by subst hx; rw [S_len, sizeLine_eq]; omega
theorem sl_ns {j : Int} {uj : Tok} (hF : Fr h₀ L s.heap m) (hN : News h₀ L s.heap news) (hx : x = S l) (hj : 0 ≤ j) (hl : l.length ≤ 100000) (h : ∀ h' t' k, Fr h₀ L h' m → News h₀ L h' news → Q (.str (S (l.take j.toNat)) t') { s with heap := h', toks := k })
    (hs : subscripted slice false (.str x t) (.ref s.heap.objs.size) = operate [.ref s.heap.objs.size, .str x t] (getItem (.str x t) (.ref s.heap.objs.size)) := by with_unfolding_all rfl)
    (ht : ∀ r, letTemporaryGo value (.str x t) r = pure () := by intro _; with_unfolding_all rfl) :
    wpAny (model prog w) A (subscriptTail value slice (.str x t) (.ref s.heap.objs.size)) Q E { s with heap := s.heap.push { cls := .type "slice", data := .fields #[.none, .int j uj, .none] } } := by
  refine slice_strN_ns (hsz := fits_len hl hx) hF hN (fun h' t' k F' N' => ?_) hs ht
  subst hx
  rw [slice_ns l j hj]
  exact h h' t' k F' N'
theorem sl_sn {i : Int} {ui : Tok} (hF : Fr h₀ L s.heap m) (hN : News h₀ L s.heap news) (hx : x = S l) (hi : 0 ≤ i) (hl : l.length ≤ 100000) (h : ∀ h' t' k, Fr h₀ L h' m → News h₀ L h' news → Q (.str (S (l.drop i.toNat)) t') { s with heap := h', toks := k })
    (hs : subscripted slice false (.str x t) (.ref s.heap.objs.size) = operate [.ref s.heap.objs.size, .str x t] (getItem (.str x t) (.ref s.heap.objs.size)) := by with_unfolding_all rfl)
    (ht : ∀ r, letTemporaryGo value (.str x t) r = pure () := by intro _; with_unfolding_all rfl) :
    wpAny (model prog w) A (subscriptTail value slice (.str x t) (.ref s.heap.objs.size)) Q E { s with heap := s.heap.push { cls := .type "slice", data := .fields #[.int i ui, .none, .none] } } := by
  refine slice_strN_sn (hsz := fits_len hl hx) hF hN (fun h' t' k F' N' => ?_) hs ht
  subst hx
  rw [slice_sn l i hi]
  exact h h' t' k F' N'
theorem sl_ss {i j : Int} {ui uj : Tok} (hF : Fr h₀ L s.heap m) (hN : News h₀ L s.heap news) (hx : x = S l) (hi : 0 ≤ i) (hj : 0 ≤ j) (hl : l.length ≤ 100000) (h : ∀ h' t' k, Fr h₀ L h' m → News h₀ L h' news → Q (.str (S ((l.take j.toNat).drop i.toNat)) t') { s with heap := h', toks := k })
    (hs : subscripted slice false (.str x t) (.ref s.heap.objs.size) = operate [.ref s.heap.objs.size, .str x t] (getItem (.str x t) (.ref s.heap.objs.size)) := by with_unfolding_all rfl)
    (ht : ∀ r, letTemporaryGo value (.str x t) r = pure () := by intro _; with_unfolding_all rfl) :
    wpAny (model prog w) A (subscriptTail value slice (.str x t) (.ref s.heap.objs.size)) Q E { s with heap := s.heap.push { cls := .type "slice", data := .fields #[.int i ui, .int j uj, .none] } } := by
  refine slice_strN_ss (hsz := fits_len hl hx) hF hN (fun h' t' k F' N' => ?_) hs ht
  subst hx
  rw [slice_ss l i j hi hj]
  exact h h' t' k F' N'
theorem S_addW {a b : Tx} (hx : x = S a) (hy : y = S b) (ha : a.length ≤ 100000) (hb : b.length ≤ 100000) (h : ∀ t' k, Q (.str (S (a ++ b)) t') { s with toks := k }) : wpAny (model prog w) A (binaryOp .Add (.str x t) (.str y u)) Q E s := by
  subst hx hy
  refine KOpn.add (by rw [S_len, S_len]; omega) fun t' k _ => ?_
  rw [S_app]
  exact h t' k
theorem tk_gen {α : Type} {M : Model} {t : Sem α} {Q : α → Shared → Prop} {h : Heap} {g : Array GenState} {d : Drawn} {os : OsState} {X : Nat} (hX : 0 < X) (hq : ∀ tk, 0 < tk → wpAny M A t Q E ⟨h, g, d, tk, os⟩) : wpAny M A t Q E ⟨h, g, d, X, os⟩ := hq X hX
end

section
variable {prog : Program} {w : World} {A : Around} {E : Value → Shared → Prop} {s : Shared} {h₀ : Heap} {L l : Addr} {m : Str → Option Value} {news : List (Addr × Obj)} {vs : List Value} {n : Nat} {t u : Tok} {Q : Value → Shared → Prop} {value slice : Expr}
theorem isList_news (N : News h₀ L s.heap news) (hm : (l, listOf vs.toArray n) ∈ news) : s.heap.IsList l vs.toArray := ⟨_, (N _ hm).1, rfl, n, rfl⟩
theorem len_news (N : News h₀ L s.heap news) (hm : (l, listOf vs.toArray n) ∈ news) (hfit : (vs.length : Int) < 2 ^ 62) (h : ∀ t k, Q (.int (vs.length : Int) t) { s with toks := k }) :
    wpAny (model prog w) A (call (.builtin "len") [.ref l]) Q E s := by
  have e : (vs.toArray.size : Int) = vs.length := by simp
  refine call_len_list (isList_news N hm) (by rw [e]; omega) ?_
  rw [e]
  exact h _ _
theorem item_news {k : Int} {v : Value} (N : News h₀ L s.heap news) (hm : (l, listOf vs.toArray n) ∈ news) (h0 : 0 ≤ k) (hhi : k < 2 ^ 62) (hx : vs[k.toNat]? = some v) (h : Q v s)
    (hs : subscripted slice false (.ref l) (.int k u) = operate [.ref l, .int k u] (getItem (.ref l) (.int k u)) := by with_unfolding_all rfl) :
    wpAny (model prog w) A (subscriptTail value slice (.ref l) (.int k u)) Q E s :=
  tail_any (isList_news N hm).typeIs slot_list_getitem.lookup (wpAny_getItem_list (isList_news N hm) h0 (by omega) (by simpa using hx) h) hs
end
theorem ne_of_ltAll {d : Addr} {news : List (Addr × Obj)} (h : ∀ p ∈ news, p.1 < d) : ∀ p ∈ news, p.1 ≠ d := fun p hp => Nat.ne_of_lt (h p hp)
theorem ne_of_allLt {d : Addr} : ∀ {news : List (Addr × Obj)}, AllLt d news → ∀ p ∈ news, p.1 ≠ d
  | [], _ => fun _ hp => nomatch hp
  | _ :: _, h => fun p hp => by
    rcases List.mem_cons.mp hp with rfl | hp
    · exact Nat.ne_of_lt h.1
    · exact ne_of_allLt h.2 p hp
/-- a stop of the walk, laid by hand -/
def Stop (P : Prop) : Prop := P
theorem Stop.out {P : Prop} (h : Stop P) : P := h
theorem Stop.go {P : Prop} (h : P) : Stop P := h
theorem lit_C : Str.ofString "C" = S [67] := by decide +kernel
theorem lit_c : Str.ofString "c" = S [99] := by decide +kernel
theorem lit_star : Str.ofString "*" = S [42] := by decide +kernel
theorem lit_nil : Str.ofString "" = S [] := by decide +kernel
theorem lit_sp : Str.ofString " " = S [32] := by decide +kernel
theorem lit_0 : Str.ofString "0" = S [48] := by decide +kernel
theorem lit_END : Str.ofString "END" = S [69, 78, 68] := by decide +kernel
theorem q_bool {Q : Value → Shared → Prop} {s : Shared} {x y : Bool} (e : x = y) (h : Q (.bool y) s) : Q (.bool x) s := e ▸ h
theorem q_str {Q : Value → Shared → Prop} {s : Shared} {x y : Str} {t : Tok} (e : x = y) (h : Q (.str y t) s) : Q (.str x t) s := e ▸ h
theorem q_int {Q : Value → Shared → Prop} {s : Shared} {x y : Int} {t : Tok} (e : x = y) (h : Q (.int y t) s) : Q (.int x t) s := e ▸ h
theorem nb_len (l : Tx) : (nb l).length ≤ l.length := List.length_filter_le _ _
theorem tn1 : (1 : Int).toNat = 1 := rfl
theorem c_wb {w : World} {mean : ExcName → Option Value} {mg mb : Str → Option Value} {l : Tx} {t : Tok} {dp un : Nat} {gd : Option (List Code)} {cn : Str} {cs : Scope} {a : Addr} {ccd : Value} {cl : List (Str × Addr)} {outer : List Env} {A₀ : Around} {base h₀ : Heap} {L : Addr} {m : Str → Option Value} {s : Shared} {Q E : Value → Shared → Prop} {news : List (Addr × Obj)}
  (B : Below A₀ base outer h₀) (F : Fr h₀ L s.heap m) (X : (Mine.hd.heap_1 w.params).In h₀) (N : News h₀ L s.heap news) (T : Top VW LS mean mg mb h₀) (hk : cs.kind = .function) (hd : dp + 1 < recursionLimit) (hu : un + 8 < cLine)
  (hl : l.length ≤ 100000)
  (hret : ∀ t h' tk', Fr h₀ L h' m → News h₀ L h' news → Q (.str (S (nb l)) t) { s with heap := h', toks := tk' }) :
  wpAny (model PySem.Challenge.rw_no0232_01.row.prog w) (ktrTop dp un gd cn cs L a ccd cl outer) (call (.ref 88) [.str (S l) t]) Q E s := by
  revert X
  k_fill
  intro X
  refine wpAny_call ?_
  k_dflt cell_enter
  refine tk_gen (by simp) fun tk htk => ?_
  k_steps
  rename_i F' N' B' X' T'
  refine SC.replaceW (by show @Ne Nat tk 0; omega) (by show @Ne Nat (tk + 1) 0; omega) (by show @Ne Nat tk (tk + 1); omega) (by decide +kernel) (by rw [S_len]; omega) (by decide +kernel) ?_
  intro t' k'
  rw [S_replace]
  k_steps
  exact hret _ _ _ (by assumption) (by assumption)
end
theorem flush_Base1 {prog : Program} {w : World} {A : Around} {env : Env} {Q : Flow → Shared → Prop} {E : Value → Shared → Prop} {s : Shared} (h : wpAny (model prog w) A (execs [] env) Q E s) : wpAny (model prog w) A (execs [] env) Q E s := by
  w_top off
  first | (walk1; fail) | exact h
section
open Sem (wp)
section
variable {prog : Program} {w : World} {M : Model} {A : Around} {E : Value → Shared → Prop} {R : Result → Shared → Prop} {h : Heap} {g : Array GenState} {d : Drawn} {t : Nat} {os : OsState}
variable {nm q : Str} {C N : Addr} {bs bm : List Value} {hdct : Bool} {sn : List Str} {sub : List Value} {ab : Bool} {col : Option Bool} {dd : Option Addr} {k0 k1 k2 k3 k5 : Option Value}
/-- what the making asks of a class's chain -/
structure Chain51 (C : Addr) (bm : List Value) : Prop where
  exc : (Value.ref C :: bm).contains (.type "Exception") = true
  attr : (Value.ref C :: bm).contains (.type "AttributeError") = false
  name : (Value.ref C :: bm).contains (.type "NameError") = false
theorem se_checkNew (hB : Chain51 C bm) {rest : List Value} {Q : Unit → Shared → Prop} (hC : h.get? C = some (excClassObj nm q C N bs bm hdct sn sub ab col dd k0 k1 k2 k3 k5 "Exception.__new__"))
    (hq : Q () ⟨h, g, d, t, os⟩) : wpAny M A (checkBuiltinCall "Exception.__new__" ⟨.ref C :: rest, []⟩) Q E ⟨h, g, d, t, os⟩ := by
  have F := PySem.F.excBase_Exception
  have hcont := hB.exc
  have hstar := F.noStar
  simp only [checkBuiltinCall, F.newKind, F.newSplit, F.newRow]
  repeat (first | refine wpAny_loadPart_at hC ?_ | (refine wpAny_isSubtype_exc hC ?_; rw [hcont]) | refine wpAny_staticBase_exc hC ?_ | refine wpAny_madeBy_exc hC ?_ | simp only [bne_self_eq_false, Bool.false_eq_true, if_false] | wp_step)
  exact hq
theorem se_codeNew (hB : Chain51 C bm) {rest : List Value} (hC : h.get? C = some (excClassObj nm q C N bs bm hdct sn sub ab col dd k0 k1 k2 k3 k5 "Exception.__new__"))
    (hq : R (.ok (.ret (.ref (h.objs.size + 1)))) ⟨(h.push { cls := .type "tuple", data := .seq rest.toArray }).push
      { cls := .ref C, data := .fields #[.ref h.objs.size, .none, .none, .none, .bool false, .none] }, g, d, t, os⟩) (hrest : rest.length ≤ sizeLine) :
    codeAny (model prog w) A (.builtin "Exception.__new__" ⟨.ref C :: rest, []⟩) R ⟨h, g, d, t, os⟩ := by
  have Fn := PySem.F.excBase_Exception
  have hends := Fn.ends
  obtain ⟨hcB, hcA, hcN⟩ := hB
  refine codeAny_builtinAt Fn.entry ?_
  unfold Builtin.«BaseException.__new__»
  refine PySem.wpAt_bind ?_
  show PySem.wpAt _ _ _ (stack >>= _) _ _ _
  refine PySem.wpAt_bind (PySem.wpAt_stack fun p below => PySem.wpAt_of_wpAny ?_)
  wp_walk
  refine PySem.wpAt_of_wpAny ?_
  rw [Fn.owner]
  repeat (first | with_reducible refine wpAny_madeHere_exc Fn.canon hC ?_ | with_reducible refine wpAny_loadPart_at hC ?_ | (with_reducible refine wpAny_isSubtype_exc hC ?_; first | rw [hcB] | rw [hcA] | rw [hcN]) | wp_step)
  show R _ _
  rw [Heap.size_push]
  exact hq
theorem se_typeCall (hB : Chain51 C bm) {mN : Str → Option Value} {rest : List Value} {fI : Addr} {oI : Obj} {Q : Fin → Shared → Prop}
    (hC : h.get? C = some (excClassObj nm q C N bs bm hdct sn sub ab col dd k0 k1 k2 k3 k5 "Exception.__new__")) (hn : h.Ns N mN) (hi : mN "__init__" = some (.ref fI))
    (hfI : h.get? fI = some oI) (hfc : oI.cls = .type "function")
    (hq : wpAny (model prog w) A (call (.ref fI) (.ref (h.objs.size + 1) :: rest)) (fun r s' => r = .none ∧ Q (.done (.ret (.ref (h.objs.size + 1)))) s') E ⟨(h.push { cls := .type "tuple", data := .seq rest.toArray }).push
      { cls := .ref C, data := .fields #[.ref h.objs.size, .none, .none, .none, .bool false, .none] }, g, d, t, os⟩) (hrest : rest.length ≤ sizeLine) :
    wpAny (model prog w) A (Builtin.«type.__call__» ⟨.ref C :: rest, []⟩) Q E ⟨h, g, d, t, os⟩ := by
  have Fn := PySem.F.excBase_Exception
  repeat (first | with_reducible refine wpAny_loadPart_at hC ?_ | with_reducible refine wpAny_madeBy_exc hC ?_ | wp_step)
  refine codeAny_call_builtin_code (Code.quiet_builtin _ Fn.quiet) (se_checkNew hB hC ?_)
  refine se_codeNew hB hC ?_ hrest
  show wpAny _ _ _ _ _ _
  have hC₁ := Heap.get?_push_of_some { cls := .ref C, data := .fields #[.ref h.objs.size, .none, .none, .none, .bool false, .none] }
    (Heap.get?_push_of_some { cls := .type "tuple", data := .seq rest.toArray } hC)
  have hfI₁ := Heap.get?_push_of_some { cls := .ref C, data := .fields #[.ref h.objs.size, .none, .none, .none, .bool false, .none] }
    (Heap.get?_push_of_some { cls := .type "tuple", data := .seq rest.toArray } hfI)
  have hn₁ : ((h.push { cls := .type "tuple", data := .seq rest.toArray }).push { cls := .ref C, data := .fields #[.ref h.objs.size, .none, .none, .none, .bool false, .none] }).Ns N mN :=
    let ⟨o, es, ep, e, r⟩ := hn; ⟨o, es, ep, Heap.get?_push_of_some _ (Heap.get?_push_of_some _ e), r⟩
  have hget : ((h.push { cls := .type "tuple", data := .seq rest.toArray }).push
      { cls := .ref C, data := .fields #[.ref h.objs.size, .none, .none, .none, .bool false, .none] }).get? (h.objs.size + 1) = some
      { cls := .ref C, data := .fields #[.ref h.objs.size, .none, .none, .none, .bool false, .none] } := by heap_get
  have hcC : (Value.ref C :: bm).contains (.ref C) = true := by simp
  unfold isInstance
  repeat (first | with_reducible refine wpAny_loadPart_at hget ?_ | (with_reducible refine wpAny_isSubtype_exc hC₁ ?_; rw [hcC]) | wp_step)
  show wpAny _ _ (typeLookup (.ref C) _) _ _ _
  rw [typeLookup_eq]
  refine wpAny_bind (wpAny_mroOf_exc hC₁ ?_)
  rw [lookupAlong_cons]
  refine wpAny_bind (wpAny_classOwn_exc hC₁ hn₁ ?_)
  rw [hi]
  refine wpAny_pure ?_
  refine wpAny_holding (wpAny_bind ?_)
  unfold bindSpecial
  refine wpAny_bind (wpAny_typeOf (T := "function") ⟨_, hfI₁, hfc⟩ ?_)
  rw [if_pos (by decide)]
  refine wpAny_pure (wpAny_bind (wpAny_mono hq (fun r s' hr => ?_) fun _ _ x => x))
  obtain ⟨rfl, hQ⟩ := hr
  wp_walk
  exact hQ
theorem se_call (hB : Chain51 C bm) {mN : Str → Option Value} {rest : List Value} {fI : Addr} {oI : Obj} {Q : Value → Shared → Prop}
    (hC : h.get? C = some (excClassObj nm q C N bs bm hdct sn sub ab col dd k0 k1 k2 k3 k5 "Exception.__new__")) (hn : h.Ns N mN) (hi : mN "__init__" = some (.ref fI))
    (hfI : h.get? fI = some oI) (hfc : oI.cls = .type "function")
    (hq : wpAny (model prog w) (A.under (.builtin "type.__call__" ⟨.ref C :: rest, []⟩)) (call (.ref fI) (.ref (h.objs.size + 1) :: rest)) (fun r s' => r = .none ∧ Q (.ref (h.objs.size + 1)) s') E ⟨(h.push { cls := .type "tuple", data := .seq rest.toArray }).push
      { cls := .ref C, data := .fields #[.ref h.objs.size, .none, .none, .none, .bool false, .none] }, g, d, t, os⟩) (hrest : rest.length ≤ sizeLine) :
    wpAny (model prog w) A (call (.ref C) rest) Q E ⟨h, g, d, t, os⟩ := by
  have f1 := tc_lookup
  have f2 := tc_bind (.ref C)
  have hT : (⟨h, g, d, t, os⟩ : Shared).TypeIs (.ref C) "type" := ⟨_, hC, rfl⟩
  refine wpAny_call (codeAny_of_tree ?_)
  show wpAny _ _ (callAny (.ref C) _) _ _ _
  repeat (any_goals (first | assumption | with_reducible refine wpAny_loadPart_at hC ?_ | wp_step))
  refine ⟨rfl, ?_⟩
  refine codeAny_call_builtin_at (Code.quiet_builtin _ (by decide +kernel)) entry_typeCall (wpAny_check_type_call_sub hC (se_typeCall hB hC hn hi hfI hfc ?_ hrest))
  exact hq
end
end
theorem flush_SE1 {prog : Program} {w : World} {A : Around} {env : Env} {Q : Flow → Shared → Prop} {E : Value → Shared → Prop} {s : Shared} (h : wpAny (model prog w) A (execs [] env) Q E s) : wpAny (model prog w) A (execs [] env) Q E s := by
  w_top off
  first | (walk1; fail) | exact h
section
open PyProof.V PySem.Spec
section
variable {prog : Program} {w : World} {A : Around} {E : Value → Shared → Prop} {s : Shared} {env : Env} {h₀ : Heap} {x : Str} {body : List Stmt} {Q : Flow → Shared → Prop}
/-- the end of a turn that keeps the ledger -/
def TurnM (h₀ : Heap) (L : Addr) (J : (Str → Option Value) → Prop) (need : List (Addr × Obj)) (s₁ : Shared) (Q : Flow → Shared → Prop) (f : Flow) (s₂ : Shared) : Prop :=
  match f with
  | .ret v => Q (.ret v) s₂
  | .brk => Q .next s₂
  | _ => ∃ h' tk m' news', s₂ = { s₁ with heap := h', toks := tk } ∧ Fr h₀ L h' m' ∧ News h₀ L h' news' ∧ (∀ p ∈ need, p ∈ news') ∧ J m'
theorem iter_str {text : Str} {t₀ : Tok} {m₀ : Str → Option Value} {news : List (Addr × Obj)} (J : Nat → (Str → Option Value) → Prop)
    (hh : A.handled = none) (F : Fr h₀ env.locals s.heap m₀) (N : News h₀ env.locals s.heap news) (hj : J 0 m₀)
    (turn : ∀ i c t m₁ h tk own, text.cps[i]? = some c → J i m₁ → Fr h₀ env.locals h (fun y => if y = x then some (.str ⟨#[c]⟩ t) else m₁ y) → News h₀ env.locals h (news ++ own) →
      wpAny (model prog w) A (execs body env) (TurnM h₀ env.locals (J (i + 1)) (news ++ own) { s with heap := h, toks := tk } Q) E { s with heap := h, toks := tk })
    (done : ∀ m₁ h tk, J text.cps.size m₁ → Fr h₀ env.locals h m₁ → News h₀ env.locals h news → Q .next { s with heap := h, toks := tk }) :
    wpAny (model prog w) A (pyIter (.str text t₀)) (fun it s₂ => LoopAtV prog w A h₀ env x body Q E it s₂) E s := by
  refine wpAny_pyIter_str fun o St hW h0 => ?_
  have W := hW A hh
  let J' : Nat → (Str → Option Value) → List (Addr × Obj) → Prop := fun i m₁ news₁ => news₁ = news ∧ J i m₁
  refine ⟨_, _, _, _, _, _, m₀, news, J', rfl, W, ?_, ?_, ?_, h0, F.push _, (fun p hp => ⟨Heap.get?_push_of_some _ (N p hp).1, (N p hp).2⟩), ⟨rfl, hj⟩, ?_, ?_⟩
  · intro hm
    exact absurd F.ns.lt ((List.mem_singleton.mp hm) ▸ Nat.lt_irrefl _)
  · intro b hb
    rw [List.mem_singleton.mp hb]
    exact next_is_new F
  · intro p hp hI
    exact absurd (Heap.lt_size (N p hp).1) ((List.mem_singleton.mp hI) ▸ Nat.lt_irrefl _)
  · rintro i v m₁ news₁ s₁ own ⟨hh', tk', rfl⟩ hin hP ⟨rfl, hJ⟩ hoff _ _ _ _ F₁ N₁
    obtain ⟨c, u, hc, rfl⟩ := hP
    have N₂ : News h₀ env.locals hh' (news₁ ++ own) := fun p hp => N₁ p ((List.mem_append.mp hp).elim (fun h => List.mem_append.mpr (.inr h)) fun h => List.mem_append.mpr (.inl h))
    refine wpAny_mono (turn i c u m₁ hh' tk' own hc hJ F₁ N₂) (fun f s₂ p => ?_) fun _ _ e => e
    have fin : (∃ h' tk m' news', s₂ = { ({ s with heap := hh', toks := tk' } : Shared) with heap := h', toks := tk } ∧ Fr h₀ env.locals h' m' ∧ News h₀ env.locals h' news' ∧ (∀ p ∈ news₁ ++ own, p ∈ news') ∧ J (i + 1) m') →
        LoopStepU h₀ env.locals [s.heap.objs.size] own (J' (i + 1)) { s with heap := hh', toks := tk' } .next s₂ := by
      rintro ⟨h', tk, m', news', e, F', N', hn, hm⟩
      exact ⟨rfl, h', tk, m', news₁, e, F', fun p hp => N' p (hn p ((List.mem_append.mp hp).elim (fun h => List.mem_append.mpr (.inr h)) fun h => List.mem_append.mpr (.inl h))), hoff, rfl, hm⟩
    cases f with
    | ret v => exact .ret p
    | brk => exact .brk p
    | next => exact .next (fin p)
    | cont => exact .cont (fin p)
  · rintro h' tk m' news' F' N' _ ⟨rfl, hJ⟩
    exact done m' h' tk hJ F' N'
end
section
variable {prog : Program} {w : World} {A : Around} {E : Value → Shared → Prop} {s : Shared} {env : Env} {h₀ : Heap} {x : Str} {body : List Stmt} {Q : Flow → Shared → Prop}
/-- what the frame's map says at the end of a turn: the state's names, and all else as ahead of the loop -/
def Says {σ : Type} (ps : σ → List (Str × Value)) (x : Str) (stored : List Str) (m₀ m : Str → Option Value) (st : σ) : Prop :=
  (∀ p ∈ ps st, m p.1 = some p.2) ∧ ∀ z, z ≠ x → (∀ p ∈ ps st, z ≠ p.1) → stored.contains z = false → m z = m₀ z
def TurnS {σ : Type} (h₀ : Heap) (L : Addr) (ps : σ → List (Str × Value)) (x : Str) (stored : List Str) (m₀ : Str → Option Value) (P : σ → Prop) (need : List (Addr × Obj)) (s₁ : Shared) (Q : Flow → Shared → Prop) (f : Flow) (s₂ : Shared) : Prop :=
  match f with
  | .ret v => Q (.ret v) s₂
  | .brk => Q .next s₂
  | _ => ∃ h' tk m' news' st', s₂ = { s₁ with heap := h', toks := tk } ∧ Fr h₀ L h' m' ∧ News h₀ L h' news' ∧ (∀ p ∈ need, p ∈ news') ∧ P st' ∧ Says ps x stored m₀ m' st'
theorem loop_str {σ : Type} {text : Str} {t₀ : Tok} {m₀ : Str → Option Value} {news : List (Addr × Obj)} (ps : σ → List (Str × Value)) (stored : List Str) (P : Nat → σ → Prop) (c₀ : σ)
    (hh : A.handled = none) (F : Fr h₀ env.locals s.heap m₀) (N : News h₀ env.locals s.heap news) (hk : ∀ p ∈ ps c₀, m₀ p.1 = some p.2) (hp : P 0 c₀)
    (turn : ∀ i c st t (u : Str → Option Value) h tk own, text.cps[i]? = some c → P i st → Fr h₀ env.locals h (fun y => if y = x then some (.str ⟨#[c]⟩ t) else kstB (fun z => if stored.contains z then u z else m₀ z) (ps st) y) → News h₀ env.locals h (news ++ own) →
      wpAny (model prog w) A (execs body env) (TurnS h₀ env.locals ps x stored m₀ (P (i + 1)) (news ++ own) { s with heap := h, toks := tk } Q) E { s with heap := h, toks := tk })
    (done : ∀ st (u : Str → Option Value) h tk, P text.cps.size st → Fr h₀ env.locals h (fun y => if y = x then u y else kstB (fun z => if stored.contains z then u z else m₀ z) (ps st) y) → News h₀ env.locals h news → Q .next { s with heap := h, toks := tk }) :
    wpAny (model prog w) A (pyIter (.str text t₀)) (fun it s₂ => LoopAtV prog w A h₀ env x body Q E it s₂) E s := by
  refine iter_str (fun i m => ∃ st, P i st ∧ Says ps x stored m₀ m st) hh F N ⟨c₀, hp, hk, fun _ _ _ _ => rfl⟩ ?_ ?_
  · rintro i c t m₁ h tk own hc ⟨st, hP, h1, h2⟩ F₁ N₁
    refine wpAny_mono (turn i c st t m₁ h tk own hc hP (kst_fr h1 h2 F₁) N₁) (fun f s₂ p => ?_) fun _ _ e => e
    cases f with
    | ret v => exact p
    | brk => exact p
    | next =>
      obtain ⟨h', tk', m', news', st', e, F', N', hn, hP', hS⟩ := p
      exact ⟨h', tk', m', news', e, F', N', hn, st', hP', hS⟩
    | cont =>
      obtain ⟨h', tk', m', news', st', e, F', N', hn, hP', hS⟩ := p
      exact ⟨h', tk', m', news', e, F', N', hn, st', hP', hS⟩
  · rintro m₁ h tk ⟨st, hP, h1, h2⟩ F₁ N₁
    exact done st m₁ h tk hP (kst_frOut h1 h2 F₁) N₁
end
end
theorem flush_LP1 {prog : Program} {w : World} {A : Around} {env : Env} {Q : Flow → Shared → Prop} {E : Value → Shared → Prop} {s : Shared} (h : wpAny (model prog w) A (execs [] env) Q E s) : wpAny (model prog w) A (execs [] env) Q E s := by
  w_top off
  first | (walk1; fail) | exact h
section
open PyProof.V PySem.Spec
/-- no address of led is one of rest's -/
def Off (rest led : List (Addr × Obj)) : Prop := ∀ p ∈ rest, ∀ q ∈ led, p.1 ≠ q.1
theorem Off.nil {rest : List (Addr × Obj)} : Off rest [] := fun _ _ _ h => nomatch h
theorem Off.cons {rest led : List (Addr × Obj)} {a : Addr × Obj} (h1 : ∀ p ∈ rest, p.1 ≠ a.1) (h2 : Off rest led) : Off rest (a :: led) := fun p hp q hq => by
  rcases List.mem_cons.mp hq with rfl | hq
  · exact h1 p hp
  · exact h2 p hp q hq
theorem Off.head {rest led : List (Addr × Obj)} {a : Addr} {o : Obj} (h : Off rest ((a, o) :: led)) : ∀ p ∈ rest, p.1 ≠ a := fun p hp => h p hp _ (.head _)
theorem Off.rest {rest led : List (Addr × Obj)} {a : Addr × Obj} (h : Off rest (a :: led)) : Off rest led := fun p hp q hq => h p hp q (.tail _ hq)
theorem Off.sub {rest rest' led : List (Addr × Obj)} (h : Off rest led) (hs : ∀ p ∈ rest', p ∈ rest) : Off rest' led := fun p hp => h p (hs p hp)
theorem Off.apart {rest led : List (Addr × Obj)} (h : Off rest led) : ∀ q ∈ led, ∀ p ∈ rest, p.1 ≠ q.1 := fun q hq p hp => h p hp q hq
section
variable {prog : Program} {w : World} {A : Around} {E : Value → Shared → Prop} {s : Shared} {env : Env} {h₀ : Heap} {x : Str} {body : List Stmt} {Q : Flow → Shared → Prop}
/-- the end of a turn: the state's ledger, what is new, and the rest -/
def TurnL {σ : Type} (h₀ : Heap) (L : Addr) (Led : σ → List (Addr × Obj)) (ps : σ → List (Str × Value)) (x : Str) (stored : List Str) (m₀ : Str → Option Value) (P : List (Addr × Obj) → σ → Prop) (tlc rest : List (Addr × Obj)) (s₁ : Shared) (Q : Flow → Shared → Prop) (f : Flow) (s₂ : Shared) : Prop :=
  match f with
  | .ret v => Q (.ret v) s₂
  | .brk => Q .next s₂
  | _ => ∃ h' tk m' news' c' add, s₂ = { s₁ with heap := h', toks := tk } ∧ Fr h₀ L h' m' ∧ News h₀ L h' news' ∧ (∀ p ∈ Led c' ++ (add ++ rest), p ∈ news') ∧ Off rest (Led c' ++ add) ∧ Off add (Led c') ∧ P (add ++ tlc) c' ∧ Says ps x stored m₀ m' c'
/-- the loop's state between two turns -/
def StL {σ : Type} (Led : σ → List (Addr × Obj)) (ps : σ → List (Str × Value)) (x : Str) (stored : List Str) (m₀ : Str → Option Value) (P : List (Addr × Obj) → σ → Prop) (cst : List (Addr × Obj)) (m : Str → Option Value) (nx : List (Addr × Obj)) : Prop :=
  ∃ c tlc, nx = Led c ++ tlc ∧ (∀ p ∈ cst, p ∈ tlc) ∧ Off tlc (Led c) ∧ P tlc c ∧ Says ps x stored m₀ m c
theorem TurnL.endG {σ : Type} {L : Addr} {Led : σ → List (Addr × Obj)} {ps : σ → List (Str × Value)} {stored : List Str} {m₀ : Str → Option Value} {P : List (Addr × Obj) → σ → Prop} {cst tlc own : List (Addr × Obj)} {s₁ s₂ : Shared} {f : Flow}
    (hc : ∀ p ∈ cst, p ∈ tlc) {c : σ} (ho0 : Off (tlc ++ own) (Led c)) (hown : OwnOff own (tlc.map (·.1)))
    (h : TurnL h₀ L Led ps x stored m₀ P tlc (tlc ++ own) s₁ Q f s₂) : InvPostG h₀ L (StL Led ps x stored m₀ P cst) own s₁ Q f s₂ := by
  have fin : (∃ h' tk m' news' c' add, s₂ = { s₁ with heap := h', toks := tk } ∧ Fr h₀ L h' m' ∧ News h₀ L h' news' ∧ (∀ p ∈ Led c' ++ (add ++ (tlc ++ own)), p ∈ news') ∧ Off (tlc ++ own) (Led c' ++ add) ∧ Off add (Led c') ∧ P (add ++ tlc) c' ∧ Says ps x stored m₀ m' c') →
      InvEndG h₀ L (StL Led ps x stored m₀ P cst) own s₁ s₂ := by
    rintro ⟨h', tk, m', news', c', add, e, F', N', hn, hf, hf2, hP, hS⟩
    refine ⟨h', tk, m', news', Led c' ++ (add ++ tlc), e, F', N', fun p hp => hn p ?_, fun p hp => hn p ?_, ?_, c', add ++ tlc, rfl, fun p hp => List.mem_append_right _ (hc p hp), ?_, hP, hS⟩
    · rcases List.mem_append.mp hp with hp | hp
      · exact List.mem_append_left _ hp
      · refine List.mem_append_right _ ?_
        rcases List.mem_append.mp hp with hp | hp
        · exact List.mem_append_left _ hp
        · exact List.mem_append_right _ (List.mem_append_left _ hp)
    · exact List.mem_append_right _ (List.mem_append_right _ (List.mem_append_right _ hp))
    · intro p hp b hb
      obtain ⟨q, hq, rfl⟩ := List.mem_map.mp hb
      rcases List.mem_append.mp hq with hq | hq
      · exact hf p (List.mem_append_right _ hp) q (List.mem_append_left _ hq)
      · rcases List.mem_append.mp hq with hq | hq
        · exact hf p (List.mem_append_right _ hp) q (List.mem_append_right _ hq)
        · exact hown p hp _ (List.mem_map.mpr ⟨q, hq, rfl⟩)
    · intro p hp q hq
      rcases List.mem_append.mp hp with hp | hp
      · exact hf2 p hp q hq
      · exact hf p (List.mem_append_left _ hp) q (List.mem_append_left _ hq)
  cases f with
  | ret v => exact h
  | brk => exact h
  | next => exact fin h
  | cont => exact fin h
theorem TurnL.next' {σ : Type} {L : Addr} {Led : σ → List (Addr × Obj)} {ps : σ → List (Str × Value)} {stored : List Str} {m₀ m' : Str → Option Value} {P : List (Addr × Obj) → σ → Prop} {tlc rest news' : List (Addr × Obj)} {s₁ : Shared} {h' : Heap} {tk : Nat} (c' : σ) (add : List (Addr × Obj))
    (F : Fr h₀ L h' m') (N : News h₀ L h' news') (hn : ∀ p ∈ Led c' ++ (add ++ rest), p ∈ news') (hf : Off rest (Led c' ++ add)) (hf2 : Off add (Led c')) (hP : P (add ++ tlc) c') (h1 : ∀ p ∈ ps c', m' p.1 = some p.2)
    (h2 : ∀ z, z ≠ x → (∀ p ∈ ps c', z ≠ p.1) → stored.contains z = false → m' z = m₀ z) : TurnL h₀ L Led ps x stored m₀ P tlc rest s₁ Q .next { s₁ with heap := h', toks := tk } :=
  ⟨h', tk, m', news', c', add, rfl, F, N, hn, hf, hf2, hP, h1, h2⟩
theorem TurnL.cont' {σ : Type} {L : Addr} {Led : σ → List (Addr × Obj)} {ps : σ → List (Str × Value)} {stored : List Str} {m₀ m' : Str → Option Value} {P : List (Addr × Obj) → σ → Prop} {tlc rest news' : List (Addr × Obj)} {s₁ : Shared} {h' : Heap} {tk : Nat} (c' : σ) (add : List (Addr × Obj))
    (F : Fr h₀ L h' m') (N : News h₀ L h' news') (hn : ∀ p ∈ Led c' ++ (add ++ rest), p ∈ news') (hf : Off rest (Led c' ++ add)) (hf2 : Off add (Led c')) (hP : P (add ++ tlc) c') (h1 : ∀ p ∈ ps c', m' p.1 = some p.2)
    (h2 : ∀ z, z ≠ x → (∀ p ∈ ps c', z ≠ p.1) → stored.contains z = false → m' z = m₀ z) : TurnL h₀ L Led ps x stored m₀ P tlc rest s₁ Q .cont { s₁ with heap := h', toks := tk } :=
  ⟨h', tk, m', news', c', add, rfl, F, N, hn, hf, hf2, hP, h1, h2⟩
theorem range_size0 (n : Nat) : Builtin.Range.rangeSize 0 (n : Int) 1 = (n : Int) := by
  unfold Builtin.Range.rangeSize
  rw [if_pos (by decide), Int.ediv_one]
  split <;> omega
theorem range_small0 {n : Nat} (h : n ≤ 100000) : Builtin.Range.small 0 (n : Int) 1 = true := by
  unfold Builtin.Range.small
  rw [range_size0]
  unfold Builtin.Range.rangeFitsLong
  simp
  omega
theorem off_own {σ : Type} {Led : σ → List (Addr × Obj)} {c : σ} {tlc own : List (Addr × Obj)} (h1 : Off tlc (Led c)) (h2 : OwnOff own ((Led c ++ tlc).map (·.1))) : Off (tlc ++ own) (Led c) ∧ OwnOff own (tlc.map (·.1)) := by
  refine ⟨fun p hp q hq => ?_, fun p hp b hb => ?_⟩
  · rcases List.mem_append.mp hp with hp | hp
    · exact h1 p hp q hq
    · exact h2 p hp _ (List.mem_map.mpr ⟨q, List.mem_append_left _ hq, rfl⟩)
  · obtain ⟨q, hq, rfl⟩ := List.mem_map.mp hb
    exact h2 p hp _ (List.mem_map.mpr ⟨q, List.mem_append_right _ hq, rfl⟩)
set_option maxHeartbeats 3200000 in
/-- a loop over a made list that stands -/
theorem loop_list {σ : Type} {l : Addr} {vs : List Value} {nn : Nat} {m₀ : Str → Option Value} {news : List (Addr × Obj)} (Led : σ → List (Addr × Obj)) (cst : List (Addr × Obj)) (ps : σ → List (Str × Value)) (stored : List Str) (P : Nat → List (Addr × Obj) → σ → Prop) (c₀ : σ)
    (hh : A.handled = none) (hl : (l, listOf vs.toArray nn) ∈ cst) (F : Fr h₀ env.locals s.heap m₀) (N : News h₀ env.locals s.heap news) (hn : ∀ p ∈ Led c₀ ++ cst, p ∈ news) (hoff : Off cst (Led c₀)) (hk : ∀ p ∈ ps c₀, m₀ p.1 = some p.2) (hp : P 0 cst c₀)
    (turn : ∀ i c v tlc rest (u : Str → Option Value) h tk, vs[i]? = some v → (∀ p ∈ cst, p ∈ tlc) → (∀ p ∈ tlc, p ∈ rest) → Off rest (Led c) → P i tlc c → Fr h₀ env.locals h (fun y => if y = x then some v else kstB (fun z => if stored.contains z then u z else m₀ z) (ps c) y) → News h₀ env.locals h (Led c ++ rest) →
      wpAny (model prog w) A (execs body env) (TurnL h₀ env.locals Led ps x stored m₀ (P (i + 1)) tlc rest { s with heap := h, toks := tk } Q) E { s with heap := h, toks := tk })
    (done : ∀ c tlc (u : Str → Option Value) h tk, (∀ p ∈ cst, p ∈ tlc) → Off tlc (Led c) → P vs.length tlc c → Fr h₀ env.locals h (fun y => if y = x then u y else kstB (fun z => if stored.contains z then u z else m₀ z) (ps c) y) → News h₀ env.locals h (Led c ++ tlc) → Q .next { s with heap := h, toks := tk }) :
    wpAny (model prog w) A (pyIter (.ref l)) (fun it s₂ => LoopAtV prog w A h₀ env x body Q E it s₂) E s := by
  refine kdl_iter (news := Led c₀ ++ cst) (fun i m nx => StL Led ps x stored m₀ (P i) cst m nx) hh (List.mem_append_right _ hl) F (fun p hp => N p (hn p hp)) ⟨c₀, cst, rfl, fun _ h => h, hoff, hp, hk, fun _ _ _ _ => rfl⟩ ?_ ?_
  · rintro i v m₁ nx h tk own hv hown _ ⟨c, tlc, rfl, hc, ho, hP, h1, h2⟩ F₁ N₁
    obtain ⟨o1, o2⟩ := off_own ho hown
    rw [List.append_assoc] at N₁
    refine wpAny_mono (turn i c v tlc (tlc ++ own) m₁ h tk hv hc (fun p hp => List.mem_append_left _ hp) o1 hP (kst_fr h1 h2 F₁) N₁) (fun f s₂ p => ?_) fun _ _ x => x
    have g := TurnL.endG hc o1 o2 p
    have up : InvEndG h₀ env.locals (StL Led ps x stored m₀ (P (i + 1)) cst) own { s with heap := h, toks := tk } s₂ →
        InvEndG h₀ env.locals (fun m' nx => (l, listOf vs.toArray nn) ∈ nx ∧ StL Led ps x stored m₀ (P (i + 1)) cst m' nx) own { s with heap := h, toks := tk } s₂ := by
      rintro ⟨h', tk', m', news', nx', e', F', N', hn', ho', ha, hS⟩
      refine ⟨h', tk', m', news', nx', e', F', N', hn', ho', ha, ?_, hS⟩
      obtain ⟨c', tl', rfl, hc', _⟩ := hS
      exact List.mem_append_right _ (hc' _ hl)
    cases f with
    | ret v => exact g
    | brk => exact g
    | next => exact up g
    | cont => exact up g
  · rintro m₁ nx h tk ⟨c, tlc, rfl, hc, ho, hP, h1, h2⟩ F₁ N₁
    exact done c tlc m₁ h tk hc ho hP (kst_frOut h1 h2 F₁) N₁
set_option maxHeartbeats 3200000 in
/-- a loop over range(n) -/
theorem loop_range {σ : Type} {r : Addr} {b₀ : Int} {t₀ u₀ v₀ : Tok} {n : Nat} {m₀ : Str → Option Value} {news : List (Addr × Obj)} (Led : σ → List (Addr × Obj)) (cst : List (Addr × Obj)) (ps : σ → List (Str × Value)) (stored : List Str) (P : Nat → List (Addr × Obj) → σ → Prop) (c₀ : σ)
    (hh : A.handled = none) (hr : IsRange s.heap r 0 b₀ 1 t₀ u₀ v₀) (hsmall : Builtin.Range.small 0 b₀ 1 = true) (hsz : Builtin.Range.rangeSize 0 b₀ 1 = (n : Int)) (F : Fr h₀ env.locals s.heap m₀) (N : News h₀ env.locals s.heap news) (hn : ∀ p ∈ Led c₀ ++ cst, p ∈ news) (hoff : Off cst (Led c₀)) (hk : ∀ p ∈ ps c₀, m₀ p.1 = some p.2) (hp : P 0 cst c₀)
    (turn : ∀ i c t tlc rest (u : Str → Option Value) h tk, i < n → (∀ p ∈ cst, p ∈ tlc) → (∀ p ∈ tlc, p ∈ rest) → Off rest (Led c) → P i tlc c → Fr h₀ env.locals h (fun y => if y = x then some (.int (i : Int) t) else kstB (fun z => if stored.contains z then u z else m₀ z) (ps c) y) → News h₀ env.locals h (Led c ++ rest) →
      wpAny (model prog w) A (execs body env) (TurnL h₀ env.locals Led ps x stored m₀ (P (i + 1)) tlc rest { s with heap := h, toks := tk } Q) E { s with heap := h, toks := tk })
    (done : ∀ c tlc (u : Str → Option Value) h tk, (∀ p ∈ cst, p ∈ tlc) → Off tlc (Led c) → P n tlc c → Fr h₀ env.locals h (fun y => if y = x then u y else kstB (fun z => if stored.contains z then u z else m₀ z) (ps c) y) → News h₀ env.locals h (Led c ++ tlc) → Q .next { s with heap := h, toks := tk }) :
    wpAny (model prog w) A (pyIter (.ref r)) (fun it s₂ => LoopAtV prog w A h₀ env x body Q E it s₂) E s := by
  refine wpAny_pyIter_range hr hsmall ?_
  have W : Walks prog w A s.heap.objs.size [s.heap.objs.size] [s.heap.objs.size] n (fun i v => i < n ∧ ∃ t, v = .int (0 + i * 1) t)
      (fun i h => IsRangeIter h s.heap.objs.size (0 + (i : Nat) * 1) ((n : Int) - (i : Nat)) 1) := (Walks.range hh _ 0 1 n).bound
  refine kdr_loop (fun i m nx => StL Led ps x stored m₀ (P i) cst m nx) W (fun _ h => h) (fun _ h => h) ?_ ?_ ?_ ?_ (by show IsRangeIter _ _ _ _ _; rw [hsz]; simpa using Heap.get?_push_size _ rfl) (F.push _) (fun p hp => ⟨Heap.get?_push_of_some _ (N p (hn p hp)).1, (N p (hn p hp)).2⟩) ⟨c₀, cst, rfl, fun _ h => h, hoff, hp, hk, fun _ _ _ _ => rfl⟩ ?_ ?_
  · intro i h hi b hb
    rw [List.mem_singleton.mp hb]
    exact ⟨_, hi⟩
  · intro hm
    exact absurd F.ns.lt ((List.mem_singleton.mp hm) ▸ Nat.lt_irrefl _)
  · intro b hb
    rw [List.mem_singleton.mp hb]
    exact next_is_new F
  · intro p hp hI
    exact absurd (Heap.lt_size (N p (hn p hp)).1) ((List.mem_singleton.mp hI) ▸ Nat.lt_irrefl _)
  · rintro i v m₁ nx h tk own hi ⟨_, t, rfl⟩ hown ⟨c, tlc, rfl, hc, ho, hP, h1, h2⟩ F₁ N₁
    have e1 : (0 : Int) + (i : Int) * 1 = (i : Int) := by omega
    rw [e1] at F₁
    obtain ⟨o1, o2⟩ := off_own ho hown
    rw [List.append_assoc] at N₁
    refine wpAny_mono (turn i c t tlc (tlc ++ own) m₁ h tk hi hc (fun p hp => List.mem_append_left _ hp) o1 hP (kst_fr h1 h2 F₁) N₁) (fun f s₂ p => TurnL.endG hc o1 o2 p) fun _ _ x => x
  · rintro m₁ nx h tk ⟨c, tlc, rfl, hc, ho, hP, h1, h2⟩ F₁ N₁
    exact done c tlc m₁ h tk hc ho hP (kst_frOut h1 h2 F₁) N₁
end
end
theorem flush_LP2 {prog : Program} {w : World} {A : Around} {env : Env} {Q : Flow → Shared → Prop} {E : Value → Shared → Prop} {s : Shared} (h : wpAny (model prog w) A (execs [] env) Q E s) : wpAny (model prog w) A (execs [] env) Q E s := by
  w_top off
  first | (walk1; fail) | exact h
section
open PyProof.V PySem.Spec
theorem sub1 {a : Addr × Obj} {cst led : List (Addr × Obj)} (h1 : a ∈ led) (h2 : ∀ p ∈ cst, p ∈ led) : ∀ p ∈ [a] ++ cst, p ∈ led := List.forall_mem_cons.mpr ⟨h1, h2⟩
theorem sub2 {a b : Addr × Obj} {cst led : List (Addr × Obj)} (h1 : a ∈ led) (h2 : b ∈ led) (h3 : ∀ p ∈ cst, p ∈ led) : ∀ p ∈ [a, b] ++ cst, p ∈ led := List.forall_mem_cons.mpr ⟨h1, List.forall_mem_cons.mpr ⟨h2, h3⟩⟩
theorem Off.one {a : Addr × Obj} {cst : List (Addr × Obj)} (h : ∀ p ∈ cst, p.1 ≠ a.1) : Off cst [a] := Off.cons h Off.nil
theorem Off.two {a b : Addr × Obj} {cst : List (Addr × Obj)} (h : ∀ p ∈ cst, p.1 ≠ a.1) (k : ∀ p ∈ cst, p.1 ≠ b.1) : Off cst [a, b] := Off.cons h (Off.cons k Off.nil)
section
variable {prog : Program} {w : World} {A : Around} {E : Value → Shared → Prop} {s : Shared} {env : Env} {h₀ : Heap} {x : Str} {target : Expr} {body : List Stmt} {Q : Flow → Shared → Prop}
set_option maxHeartbeats 3200000 in
/-- a loop over a made list, its target any -/
theorem loop_listT {σ : Type} {l : Addr} {vs : List Value} {nn : Nat} {m₀ : Str → Option Value} {news : List (Addr × Obj)} (x : Str) (Led : σ → List (Addr × Obj)) (cst : List (Addr × Obj)) (ps : σ → List (Str × Value)) (stored : List Str) (P : Nat → List (Addr × Obj) → σ → Prop) (c₀ : σ)
    (hh : A.handled = none) (hl : (l, listOf vs.toArray nn) ∈ cst) (F : Fr h₀ env.locals s.heap m₀) (N : News h₀ env.locals s.heap news) (hn : ∀ p ∈ Led c₀ ++ cst, p ∈ news) (hoff : Off cst (Led c₀)) (hk : ∀ p ∈ ps c₀, m₀ p.1 = some p.2) (hp : P 0 cst c₀)
    (turn : ∀ i c v tlc rest (u : Str → Option Value) h tk, vs[i]? = some v → (∀ p ∈ cst, p ∈ tlc) → (∀ p ∈ tlc, p ∈ rest) → Off rest (Led c) → P i tlc c → Fr h₀ env.locals h (fun y => if y = x then u y else kstB (fun z => if stored.contains z then u z else m₀ z) (ps c) y) → News h₀ env.locals h (Led c ++ rest) →
      wpAny (model prog w) A (assign target env v) (fun _ s₃ => wpAny (model prog w) A (execs body env) (TurnL h₀ env.locals Led ps x stored m₀ (P (i + 1)) tlc rest { s with heap := h, toks := tk } Q) E s₃) E { s with heap := h, toks := tk })
    (done : ∀ c tlc (u : Str → Option Value) h tk, (∀ p ∈ cst, p ∈ tlc) → Off tlc (Led c) → P vs.length tlc c → Fr h₀ env.locals h (fun y => if y = x then u y else kstB (fun z => if stored.contains z then u z else m₀ z) (ps c) y) → News h₀ env.locals h (Led c ++ tlc) → Q .next { s with heap := h, toks := tk }) :
    wpAny (model prog w) A (pyIter (.ref l)) (fun it s₂ => TurnsAt prog w A h₀ env target body Q E it s₂) E s := by
  have hl₀ := N _ (hn _ (List.mem_append_right _ hl))
  have hls : s.heap.IsList l vs.toArray := ⟨_, hl₀.1, rfl, nn, rfl⟩
  have hne : l ≠ s.heap.objs.size := Nat.ne_of_lt (Heap.lt_size hl₀.1)
  refine wpAny_pyIter_list hls ?_
  have W := Walks.list (prog := prog) (w := w) hh s.heap.objs.size l hne vs.toArray
  have hlen : vs.toArray.size = vs.length := by simp
  rw [hlen] at W
  refine ⟨_, _, _, vs.length, _, _, _, m₀, Led c₀ ++ cst, (fun i m nx => StL Led ps x stored m₀ (P i) cst m nx), rfl, KTurns.ofWalks W (fun i v s Q E st q => letGo_listiter st.1 q), ?_, ?_, ?_, ⟨⟨_, Heap.get?_push_size _ rfl, rfl, rfl⟩, hls.at fun o e => Heap.get?_push_of_some _ e⟩, F.push _, (fun p hp => ⟨Heap.get?_push_of_some _ (N p (hn p hp)).1, (N p (hn p hp)).2⟩), ⟨c₀, cst, rfl, fun _ h => h, hoff, hp, hk, fun _ _ _ _ => rfl⟩, ?_, ?_⟩
  · intro hm
    rcases List.mem_cons.mp hm with e | hm
    · exact absurd F.ns.lt (e ▸ Nat.lt_irrefl _)
    · exact hl₀.2.1 (List.mem_singleton.mp hm).symm
  · intro b hb
    rw [List.mem_singleton.mp hb]
    exact next_is_new F
  · intro p hp hI
    exact absurd (Heap.lt_size (N p (hn p hp)).1) ((List.mem_singleton.mp hI) ▸ Nat.lt_irrefl _)
  · rintro i v m₁ nx h tk own hin hP ⟨c, tlc, rfl, hc, ho, hPi, h1, h2⟩ hoffI hown hget hall hst F₁ N₁
    have hv : vs[i]? = some v := by
      have : vs.toArray[i]? = some v := hP
      simpa using this
    obtain ⟨⟨oI, hoI, _⟩, _⟩ := id hst
    have hIown : (s.heap.objs.size, oI) ∈ own := hall _ (.head _) (next_is_new F) _ hoI
    have hlo : h.get? l = some (listOf vs.toArray nn) := (N₁ _ (List.mem_append_right _ (List.mem_append_right _ (hc _ hl)))).1
    have hown1 : ∀ p ∈ own, p = (s.heap.objs.size, oI) ∨ p = (l, listOf vs.toArray nn) := by
      intro p hp
      have hg := hget p hp
      rcases List.mem_cons.mp (hown p hp) with e | e
      · left
        rw [e, hoI] at hg
        exact Prod.ext e (Option.some.inj hg).symm
      · right
        have e' := List.mem_singleton.mp e
        rw [e', hlo] at hg
        exact Prod.ext e' (Option.some.inj hg).symm
    have hI1 : OwnOff [(s.heap.objs.size, oI)] ((Led c ++ tlc).map (·.1)) := by
      intro p hp b hb e
      obtain ⟨q, hq, rfl⟩ := List.mem_map.mp hb
      rw [List.mem_singleton.mp hp] at e
      exact hoffI q hq (List.mem_singleton.mpr e.symm)
    obtain ⟨o1, o2⟩ := off_own ho hI1
    have N₂ : News h₀ env.locals h (Led c ++ (tlc ++ [(s.heap.objs.size, oI)])) := fun p hp => by
      rw [← List.append_assoc] at hp
      rcases List.mem_append.mp hp with hp | hp
      · exact N₁ p (List.mem_append_right _ hp)
      · rw [List.mem_singleton.mp hp]
        exact N₁ _ (List.mem_append_left _ hIown)
    refine wpAny_mono (turn i c v tlc (tlc ++ [(s.heap.objs.size, oI)]) m₁ h tk hv hc (fun p hp => List.mem_append_left _ hp) o1 hPi (kst_frOut h1 h2 F₁) N₂) (fun _ s₃ h₃ => wpAny_mono h₃ (fun f s₂ p => ?_) fun _ _ x => x) fun _ _ x => x
    have g := TurnL.endG hc o1 o2 p
    have fin : InvEndG h₀ env.locals (StL Led ps x stored m₀ (P (i + 1)) cst) [(s.heap.objs.size, oI)] { s with heap := h, toks := tk } s₂ →
        LoopStepU h₀ env.locals [s.heap.objs.size] own (StL Led ps x stored m₀ (P (i + 1)) cst) { s with heap := h, toks := tk } .next s₂ := by
      rintro ⟨h', tk', m', news', nx', e, F', N', hn', ho', ha, hS⟩
      obtain ⟨c', tl', rfl, hc', hS'⟩ := hS
      refine ⟨rfl, h', tk', m', Led c' ++ tl', e, F', fun p hp => ?_, fun p hp hq => ?_, ⟨c', tl', rfl, hc', hS'⟩⟩
      · rcases List.mem_append.mp hp with hp | hp
        · rcases hown1 p hp with e | e
          · rw [e]
            exact N' _ (ho' _ (.head _))
          · rw [e]
            exact N' _ (hn' _ (List.mem_append_right _ (hc' _ hl)))
        · exact N' p (hn' p hp)
      · exact ha _ (.head _) p.1 (List.mem_map.mpr ⟨p, hp, rfl⟩) (List.mem_singleton.mp hq).symm
    cases f with
    | ret v => exact .ret g
    | brk => exact .brk g
    | next => exact .next (fin g)
    | cont => exact .cont (fin g)
  · rintro h' tk m' nx F' N' _ ⟨c, tlc, rfl, hc, ho, hPn, h1, h2⟩
    exact done c tlc m' h' tk hc ho hPn (kst_frOut h1 h2 F') N'
end
end
theorem flush_LP3 {prog : Program} {w : World} {A : Around} {env : Env} {Q : Flow → Shared → Prop} {E : Value → Shared → Prop} {s : Shared} (h : wpAny (model prog w) A (execs [] env) Q E s) : wpAny (model prog w) A (execs [] env) Q E s := by
  w_top off
  first | (walk1; fail) | exact h
local macro_rules | `(tactic| k_room) => `(tactic| ktr_room)
local macro_rules | `(tactic| walk_at "subscriptTail Name Slice str ref") => `(tactic| (k_here; (with_reducible show wpAny _ _ (subscriptTail _ (Expr.Slice none (some _) none _) (Value.str _ _) (Value.ref _)) _ _ _); k_dflt (refine' sl_ns (s := ⟨_, _, _, _, _⟩) ?F ?N ?hx ?hj ?hl ?_; (case F => k_asm); (case N => k_asm); (case hx => first | exact rfl | exact S_of _); (case hj => first | decide | omega); (case hl => (first | assumption | omega | ((try simp only [List.length_append, List.length_take, List.length_drop, List.length_cons, List.length_nil, List.length_singleton, Mine.blanks_len]); omega) | (simp only [List.length_append, List.length_take, List.length_drop, List.length_cons, List.length_nil, List.length_singleton, Mine.blanks_len] at *; omega) | decide +kernel))); intro h' t' k' F' N'; (try k_sweep)))
local macro_rules | `(tactic| walk_at "subscriptTail Name Slice str ref") => `(tactic| (k_here; (with_reducible show wpAny _ _ (subscriptTail _ (Expr.Slice (some _) none none _) (Value.str _ _) (Value.ref _)) _ _ _); k_dflt (refine' sl_sn (s := ⟨_, _, _, _, _⟩) ?F ?N ?hx ?hj ?hl ?_; (case F => k_asm); (case N => k_asm); (case hx => first | exact rfl | exact S_of _); (case hj => first | decide | omega); (case hl => (first | assumption | omega | ((try simp only [List.length_append, List.length_take, List.length_drop, List.length_cons, List.length_nil, List.length_singleton, Mine.blanks_len]); omega) | (simp only [List.length_append, List.length_take, List.length_drop, List.length_cons, List.length_nil, List.length_singleton, Mine.blanks_len] at *; omega) | decide +kernel))); intro h' t' k' F' N'; (try k_sweep)))
local macro_rules | `(tactic| walk_at "subscriptTail Name Slice str ref") => `(tactic| (k_here; (with_reducible show wpAny _ _ (subscriptTail _ (Expr.Slice (some _) (some _) none _) (Value.str _ _) (Value.ref _)) _ _ _); k_dflt (refine' sl_ss (s := ⟨_, _, _, _, _⟩) ?F ?N ?hx ?hi ?hj ?hl ?_; (case F => k_asm); (case N => k_asm); (case hx => first | exact rfl | exact S_of _); (case hi => first | decide | omega); (case hj => first | decide | omega); (case hl => (first | assumption | omega | ((try simp only [List.length_append, List.length_take, List.length_drop, List.length_cons, List.length_nil, List.length_singleton, Mine.blanks_len]); omega) | (simp only [List.length_append, List.length_take, List.length_drop, List.length_cons, List.length_nil, List.length_singleton, Mine.blanks_len] at *; omega) | decide +kernel))); intro h' t' k' F' N'; (try k_sweep)))
local macro_rules | `(tactic| walk_at "binaryOp Add str str") => `(tactic| (k_here; (with_reducible show wpAny _ _ (binaryOp _ (Value.str _ _) (Value.str _ _)) _ _ _); k_dflt (refine' S_addW ?hx ?hy ?ha ?hb ?_; (case hx => first | exact rfl | exact S_of _); (case hy => first | exact rfl | exact S_of _); (case ha => (first | assumption | omega | ((try simp only [List.length_append, List.length_take, List.length_drop, List.length_cons, List.length_nil, List.length_singleton, Mine.blanks_len]); omega) | (simp only [List.length_append, List.length_take, List.length_drop, List.length_cons, List.length_nil, List.length_singleton, Mine.blanks_len] at *; omega) | decide +kernel)); (case hb => (first | assumption | omega | ((try simp only [List.length_append, List.length_take, List.length_drop, List.length_cons, List.length_nil, List.length_singleton, Mine.blanks_len]); omega) | (simp only [List.length_append, List.length_take, List.length_drop, List.length_cons, List.length_nil, List.length_singleton, Mine.blanks_len] at *; omega) | decide +kernel))); intro t' k'))
local macro_rules | `(tactic| walk_at "call builtin:len") => `(tactic| (k_here; (with_reducible show wpAny _ _ (call (Value.builtin "len") [Value.ref _]) _ _ _); k_dflt (refine' len_news ?N ?hm ?hf ?_; (case N => k_asm); (case hm => k_mem); (case hf => (first | assumption | omega | ((try simp only [List.length_append, List.length_take, List.length_drop, List.length_cons, List.length_nil, List.length_singleton, Mine.blanks_len]); omega) | (simp only [List.length_append, List.length_take, List.length_drop, List.length_cons, List.length_nil, List.length_singleton, Mine.blanks_len] at *; omega) | decide +kernel))); intro t' k'))
local macro_rules | `(tactic| walk_at "subscriptTail Name") => `(tactic| (k_here; (with_reducible show wpAny _ _ (subscriptTail _ _ (Value.ref _) (Value.int _ _)) _ _ _); k_dflt (refine' item_news ?N ?hm ?h0 ?hi ?hx ?_; (case N => k_asm); (case hm => k_mem); (case h0 => first | decide | omega); (case hi => first | decide | omega); (case hx => first | rfl | assumption); k_whole)))
local macro_rules | `(tactic| k_all) => `(tactic| first | exact ne_of_ltAll (by assumption) | exact ne_of_allLt (by assumption) | exact ne_of_allLt (And.right (by assumption)) | exact ne_of_allLt (And.right (And.right (by assumption))) | exact ne_of_allLt (And.right (And.right (And.right (by assumption)))))
local macro_rules | `(tactic| walk_at "exec For Name Name cons nil") => `(tactic| (k_here; refine Stop.out ?_))
local macro_rules | `(tactic| walk_at "exec For Name Call cons nil") => `(tactic| (k_here; refine Stop.out ?_))
local macro_rules | `(tactic| walk_at "exec For Tuple Call cons nil") => `(tactic| (k_here; refine Stop.out ?_))
local macro_rules | `(tactic| walk_at "exec For") => `(tactic| (k_here; refine Stop.out ?_))
local macro_rules | `(tactic| walk_at "pyIter ref") => `(tactic| (k_here; refine Stop.out ?_))
local macro_rules | `(tactic| walk_at "call ref") => `(tactic| (k_here; (with_reducible show wpAny _ _ (call (Value.ref 88) [Value.str _ _]) _ _ _); k_dflt (refine' c_wb ?B ?F ?X ?N ?T ?hk ?hd ?hu ?hl ?_; (case B => k_asm); (case F => k_asm); (case X => k_asm); (case N => k_asm); (case T => k_asm); (case hk => first | exact rfl | assumption); (case hd => ktr_room); (case hu => ktr_units); (case hl => ((try simp only [List.length_append, List.length_take, List.length_drop]); first | omega | assumption | decide +kernel)); k_whole); intro t' h' tk' F' N'; (try k_sweep)))
section
abbrev excO (tp : Addr) : Obj := { cls := .ref 51, data := .fields #[.ref tp, .none, .none, .none, .bool false, .none] }
abbrev tupO (vs : List Value) : Obj := { cls := .type "tuple", data := .seq vs.toArray }
section
variable {w : World} {A : Around} {E : Value → Shared → Prop} {s : Shared} {h₀ : Heap} {L : Addr} {m : Str → Option Value} {news : List (Addr × Obj)} {Q : Value → Shared → Prop}
theorem call_SE0 {rest : List Value} (F : Fr h₀ L s.heap m) (X : (Mine.hd.heap_1 w.params).In h₀) (N : News h₀ L s.heap news) (hrest : rest.length ≤ sizeLine)
    (h : ∀ e tp h', Fr h₀ L h' m → News h₀ L h' ((e, excO tp) :: (tp, tupO rest) :: news) → (∀ p ∈ news, p.1 < tp) → tp < e →
      wpAny (model PySem.Challenge.rw_no0232_01.row.prog w) (A.under (.builtin "type.__call__" ⟨.ref 51 :: rest, []⟩)) (call (.ref 48) (.ref e :: rest)) (fun r s' => r = .none ∧ Q (.ref e) s') E { s with heap := h' }) :
    wpAny (model PySem.Challenge.rw_no0232_01.row.prog w) A (call (.ref 51) rest) Q E s := by
  revert X
  k_fill
  intro X
  have hC := F.keep _ _ (X 51 _ (by k_is))
  have hfI := F.keep _ _ (X 48 _ (by k_is))
  have X' := X.keeps F.keep
  have hok : nsOkIn (Mine.hd.heap_1 w.params) 50 = true := by kernel_rfl
  have hn : s.heap.Ns 50 (s.heap.nsMap 50) := .of_isNs (isNs_of_in X' hok)
  have hi : s.heap.nsMap 50 "__init__" = some (.ref 48) := by
    have e : nsIn (Mine.hd.heap_1 w.params) 50 "__init__" = some (some (.ref 48)) := by k_is
    obtain ⟨o, es, ep, ho, hd, _, hf⟩ := hn
    unfold nsIn at e
    split at e
    · rename_i c d es' n' sl q
      have := X' _ _ q
      rw [ho] at this
      cases this
      cases hd
      split at e
      · rename_i en he
        rw [← hf]
        unfold nsFind findBy
        rw [← Array.find?_toList, he]
        exact Option.some.inj e
      · split at e <;> cases e
    · cases e
  obtain ⟨hh, g, d, t, os⟩ := s
  have N' := (N.push F (tupO rest)).push (F.push _) (excO hh.objs.size)
  rw [Heap.size_push] at N'
  refine se_call (C := 51) (N := 50) (fI := 48) ⟨by decide +kernel, by decide +kernel, by decide +kernel⟩ hC hn hi hfI rfl ?_ hrest
  exact h (hh.objs.size + 1) hh.objs.size _ ((F.push _).push _) N' (fun p hp => Heap.lt_size (N p hp).1) (Nat.lt_succ_self _)
end
section
open Sem (wp)
variable {prog : Program} {w : World} {M : Model} {A : Around} {E : Value → Shared → Prop} {h : Heap} {g : Array GenState} {d : Drawn} {t : Nat} {os : OsState}
variable {nm q : Str} {C N : Addr} {bs bm : List Value} {hdct : Bool} {sn : List Str} {sub : List Value} {ab : Bool} {col : Option Bool} {dd : Option Addr} {k0 k1 k2 k3 k5 : Option Value}
theorem se_checkInit (hB : Chain51 C bm) {e : Addr} {oe : Obj} {rest : List Value} {Q : Unit → Shared → Prop}
    (hC : h.get? C = some (excClassObj nm q C N bs bm hdct sn sub ab col dd k0 k1 k2 k3 k5 "Exception.__new__")) (he : h.get? e = some oe) (hcls : oe.cls = .ref C) (hq : Q () ⟨h, g, d, t, os⟩) :
    wpAny M A (checkBuiltinCall "Exception.__init__" ⟨.ref e :: rest, []⟩) Q E ⟨h, g, d, t, os⟩ := by
  have F := PySem.F.excBase_Exception
  have hcB := hB.exc
  have hshort := F.noStar
  simp only [checkBuiltinCall, F.initKind, F.initSplit, F.initRow]
  repeat (first | (with_reducible refine wpAny_loadPart_at he ?_; rw [hcls]) | with_reducible refine wpAny_loadPart_at hC ?_ | (with_reducible refine wpAny_isSubtype_exc hC ?_; rw [hcB]) | wp_step)
  refine wpAny_onRaise ?_
  rw [show ∀ (a b : String) (n : Nat), Bind.check ⟨.positional, "*", "Exception", .self, [⟨"args", .varPos, false⟩]⟩ a b n (List.map (fun x => x.fst) ({ pos := Value.ref e :: rest } : Args).kw) = pure () from
    fun a b n => check_star_args _ _ _ _ _ _]
  exact wpAny_pure hq
theorem se_init (hB : Chain51 C bm) {e tp : Addr} {v : Value} {Q : Value → Shared → Prop}
    (hC : h.get? C = some (excClassObj nm q C N bs bm hdct sn sub ab col dd k0 k1 k2 k3 k5 "Exception.__new__")) (he : h.get? e = some { cls := .ref C, data := .fields #[.ref tp, .none, .none, .none, .bool false, .none] })
    (hq : Q .none ⟨(h.push { cls := .type "tuple", data := .seq [v].toArray }).update e (Obj.mapFields (·.setIfInBounds 0 (Value.ref h.objs.size))), g, d, t, os⟩) :
    wpAny (model prog w) A (call (.builtin "Exception.__init__") [.ref e, v]) Q E ⟨h, g, d, t, os⟩ := by
  have F := PySem.F.excBase_Exception
  refine wpAny_call (codeAny_call_builtin F.init.plain F.initEntry (se_checkInit hB hC he rfl ?_))
  wp_walk
  exact hq
end
end
theorem flush_SE2 {prog : Program} {w : World} {A : Around} {env : Env} {Q : Flow → Shared → Prop} {E : Value → Shared → Prop} {s : Shared} (h : wpAny (model prog w) A (execs [] env) Q E s) : wpAny (model prog w) A (execs [] env) Q E s := by
  w_top off
  first | (walk1; fail) | exact h
section
section
open Builtin Builtin.ObjectAttr Builtin.Getset_descriptor
variable {w : World} {A : Around} {E : Value → Shared → Prop} {s : Shared} {R : Result → Shared → Prop} {h₀ : Heap} {L e : Addr} {m : Str → Option Value} {news : List (Addr × Obj)}
theorem refuse_exc (self : Value) : refuseLoop self "__setattr__" [.ref 51, .ref 31, .type "Exception", .type "BaseException", .type "object"] = pure () := by
  rw [refuseLoop_ref, refuseLoop_ref]
  kernel_rfl
theorem cls51 (w : World) : ∃ cd, clsIn (Mine.hd.heap_1 w.params) 51 = some cd ∧ cd.mro = [.ref 51, .ref 31, .type "Exception", .type "BaseException", .type "object"] ∧ cd.hasDict = true := by
  have h : (clsIn (Mine.hd.heap_1 w.params) 51).map (fun cd => (cd.mro, cd.hasDict)) = some ([.ref 51, .ref 31, .type "Exception", .type "BaseException", .type "object"], true) := by kernel_rfl
  obtain ⟨cd, h1, h2⟩ := Option.map_eq_some_iff.mp h
  exact ⟨cd, h1, congrArg Prod.fst h2, congrArg Prod.snd h2⟩
theorem se_osa {ox : Obj} {od : Option Obj} {name : Str} {tk : Tok} {v : Value} (X : (Mine.hd.heap_1 w.params).In s.heap) (I : InstAt s.heap e ox 51 od) (ht : takerIn (Mine.hd.heap_1 w.params) 51 name = some none)
    (h : ∀ b, wpAny (model PySem.Challenge.rw_no0232_01.row.prog w) A.in1 (storeInOwnDict (.ref e) (.ref 51) (.str name tk) name v b)
      (fun fin s' => match fin with | .done f => R (.ok f) s' | .again c' => c'.quiet = true ∧ codeAny (model PySem.Challenge.rw_no0232_01.row.prog w) A c' R s') (fun e s' => R (.error e) s') s) :
    codeAny (model PySem.Challenge.rw_no0232_01.row.prog w) A (.call (.builtin "object.__setattr__") ⟨[.ref e, .str name tk, v], []⟩) R s := by
  revert X ht
  k_fill
  intro X ht
  have SF := PySem.F.store_object
  obtain ⟨cd, hc, hmro, hhd⟩ := cls51 w
  have sub : Looks (model PySem.Challenge.rw_no0232_01.row.prog w) s.heap (isInstance (.ref e) (.type "object")) true := I.type.andThen (looks_mroIn X (by k_is))
  refine codeAny_call_builtin SF.slot.plain SF.entry (@check_slot (model PySem.Challenge.rw_no0232_01.row.prog w) _ _ s "object.__setattr__" "object" "__setattr__" (.ref e) [.str name tk, v] [] _ SF.kind SF.split sub (SF.args (.ref e) (.str name tk) v) ?_)
  obtain ⟨attr, ha, hr⟩ := Option.bind_eq_some_iff.mp ht
  have hm : Looks (model PySem.Challenge.rw_no0232_01.row.prog w) s.heap (mroOf (.ref 51)) [.ref 51, .ref 31, .type "Exception", .type "BaseException", .type "object"] := by rw [← hmro]; exact (looks_clsIn X hc).andThen .now
  have L3 : Looks (model PySem.Challenge.rw_no0232_01.row.prog w) s.heap (storeTaker? attr) none := by
    cases attr with
    | none => cases hr; exact .now
    | some a =>
      obtain ⟨b, hb, hbb⟩ := Option.map_eq_some_iff.mp hr
      refine (looks_takesIn X hb).andThen ?_
      cases b
      · exact .now
      · cases hbb
  rw [osa_eq, refuse_eq]
  refine wpAny_bind (wpAny_bind (I.type.here (wpAny_bind (hm.here ?_))))
  rw [refuse_exc]
  refine wpAny_pure (wpAny_bind (I.type.here (wpAny_bind ((looks_findIn X ha).here (wpAny_bind (L3.here ?_))))))
  exact h _
theorem se_store1 {vs : Array Value} {name : Str} {tk : Tok} {v : Value} {b : Bool} {Q : PySem.Fin → Shared → Prop} (X : (Mine.hd.heap_1 w.params).In s.heap) (he : s.heap.get? e = some ⟨.ref 51, none, .fields vs, #[]⟩)
    (hq : Q (.done (.ret .none)) { s with heap := ((s.heap.push emptyDict).update e (fun o => { o with dict := some s.heap.objs.size })).update s.heap.objs.size (Obj.putName name (PyData.keyHash w.params name) (.str name s.toks) v), toks := s.toks + 1 }) :
    wpAny (model PySem.Challenge.rw_no0232_01.row.prog w) A (storeInOwnDict (.ref e) (.ref 51) (.str name tk) name v b) Q E s := by
  obtain ⟨cd, hc, hmro, hhd⟩ := cls51 w
  have L1 : Looks (model PySem.Challenge.rw_no0232_01.row.prog w) s.heap (classData 51) cd := looks_clsIn X hc
  obtain ⟨h, g, d, t, os⟩ := s
  have he' : h.get? e = some (⟨.ref 51, none, .fields vs, #[]⟩ : Obj) := he
  refine wpAny_bind (wpAny_pure (wpAny_bind ?_))
  refine wpAny_bind (wpAny_loadPart he' (wpAny_bind (L1.here ?_)))
  rw [hhd, if_neg (by decide)]
  show wpAny _ _ (if (!true || !true) = true then pure none else _) _ _ _
  rw [if_neg (by decide)]
  have he₁ := Heap.get?_push_of_some emptyDict he'
  refine wpAny_bind (wpAny_alloc (wpAny_bind (wpAny_update he₁ ?_)))
  refine wpAny_pure (a := some h.objs.size) ?_
  have hne : h.objs.size ≠ e := Nat.ne_of_gt (Heap.lt_size he')
  have hd₂ : ((h.push emptyDict).update e (fun o => { o with dict := some h.objs.size })).get? h.objs.size = some emptyDict :=
    (Heap.get?_update_other _ _ (Ne.symm hne)).trans (Heap.get?_push_size h rfl)
  refine wpAny_bind (wpAny_pure (wpAny_bind ?_))
  unfold nsSet
  refine wpAny_bind (wpAny_bind (wpAny_askSetting (wpAny_pure (wpAny_bind (wpAny_mkText (wpAny_bind (wpAny_loadPart hd₂ ?_)))))))
  dsimp only
  rw [aRefKeyMayBeTheName_at]
  rw [show (!(#[] : Array DictEntry).any (·.key.isStr name) && (#[] : Array DictEntry).any (·.refKey)) = false from by simp]
  refine wpAny_updatePart hd₂ ?_
  have hd₃ : (((h.push emptyDict).update e (fun o => { o with dict := some h.objs.size })).update h.objs.size (Obj.putName name (PyData.keyHash w.params name) (.str name t) v)).get? h.objs.size = some (dictOf [⟨PyData.keyHash w.params name, .str name t, v⟩] 1) := by
    rw [Heap.get?_update_self _ hd₂ (by rw [show (emptyDict : Obj) = dictOf [] 0 from rfl, putName_dict]; rfl)]
    rw [show (emptyDict : Obj) = dictOf [] 0 from rfl, putName_dict]
    rfl
  refine wpAny_bind (wpAny_lookBehind hd₃ (pastItsLine_dict (by rw [List.size_toArray, sizeLine_eq]; exact Nat.le_of_ble_eq_true rfl)) ?_)
  exact wpAny_pure hq
theorem se_store2 {vs : Array Value} {dx : Addr} {es : List DictEntry} {n : Nat} {name : Str} {tk : Tok} {v : Value} {b : Bool} {Q : PySem.Fin → Shared → Prop} (X : (Mine.hd.heap_1 w.params).In s.heap) (he : s.heap.get? e = some ⟨.ref 51, some dx, .fields vs, #[]⟩)
    (hd : s.heap.get? dx = some (dictOf es n)) (hc : (!es.toArray.any (·.key.isStr name) && es.toArray.any (·.refKey)) = false) (hz : es.length ≤ 900)
    (hq : Q (.done (.ret .none)) { s with heap := s.heap.update dx (Obj.putName name (PyData.keyHash w.params name) (.str name s.toks) v), toks := s.toks + 1 }) :
    wpAny (model PySem.Challenge.rw_no0232_01.row.prog w) A (storeInOwnDict (.ref e) (.ref 51) (.str name tk) name v b) Q E s := by
  obtain ⟨cd, hcd, hmro, hhd⟩ := cls51 w
  have L1 : Looks (model PySem.Challenge.rw_no0232_01.row.prog w) s.heap (classData 51) cd := looks_clsIn X hcd
  obtain ⟨h, g, d, t, os⟩ := s
  have he' : h.get? e = some (⟨.ref 51, some dx, .fields vs, #[]⟩ : Obj) := he
  have hd' : h.get? dx = some (dictOf es n) := hd
  refine wpAny_bind (wpAny_pure (wpAny_bind ?_))
  refine wpAny_bind (wpAny_loadPart he' (wpAny_bind (L1.here ?_)))
  rw [hhd, if_neg (by decide)]
  refine wpAny_pure (a := some dx) ?_
  refine wpAny_bind (wpAny_pure (wpAny_bind ?_))
  unfold nsSet
  refine wpAny_bind (wpAny_bind (wpAny_askSetting (wpAny_pure (wpAny_bind (wpAny_mkText (wpAny_bind (wpAny_loadPart hd' ?_)))))))
  dsimp only
  rw [aRefKeyMayBeTheName_at, hc]
  refine wpAny_updatePart hd' ?_
  have hd₃ : (h.update dx (Obj.putName name (PyData.keyHash w.params name) (.str name t) v)).get? dx = some (dictOf (putL name (PyData.keyHash w.params name) (.str name t) v es) (putN name es n)) := by
    rw [Heap.get?_update_self _ hd' (by rw [putName_dict]; rfl)]
    rw [putName_dict]
  refine wpAny_bind (wpAny_lookBehind hd₃ (pastItsLine_dict ?_) ?_)
  · rw [List.size_toArray, sizeLine_eq]
    have : (putL name (PyData.keyHash w.params name) (.str name t) v es).length ≤ es.length + 1 := by
      clear hd hd' hc hz hd₃
      induction es with
      | nil => exact Nat.le_refl _
      | cons a r ih =>
        unfold putL
        split
        · simp
        · simp only [List.length_cons]; omega
    omega
  · exact wpAny_pure hq
theorem set_exc1 {vs : Array Value} {pre post : List (Addr × Obj)} {name : Str} {v : Value} {Q : Unit → Shared → Prop} (F : Fr h₀ L s.heap m) (X₀ : (Mine.hd.heap_1 w.params).In h₀) (N : News h₀ L s.heap (pre ++ (e, ⟨.ref 51, none, .fields vs, #[]⟩) :: post))
    (h1 : ∀ p ∈ pre, p.1 ≠ e) (h2 : ∀ p ∈ post, p.1 ≠ e) (ht : takerIn (Mine.hd.heap_1 w.params) 51 name = some none)
    (h : ∀ dx h', Fr h₀ L h' m → News h₀ L h' ((dx, dictOf [⟨PyData.keyHash w.params name, .str name (s.toks + 1), v⟩] 1) :: (pre ++ (e, ⟨.ref 51, some dx, .fields vs, #[]⟩) :: post)) → (∀ p ∈ pre ++ (e, (⟨.ref 51, none, .fields vs, #[]⟩ : Obj)) :: post, p.1 < dx) → Q () { s with heap := h', toks := s.toks + 2 }) :
    wpAny (model PySem.Challenge.rw_no0232_01.row.prog w) A (setAttr (.ref e) name v) Q E s := by
  have he := (N (e, ⟨.ref 51, none, .fields vs, #[]⟩) (by simp)).1
  have X := X₀.keeps F.keep
  have I : InstAt s.heap e ⟨.ref 51, none, .fields vs, #[]⟩ 51 none := ⟨he, rfl, rfl, trivial⟩
  have hs : findIn (Mine.hd.heap_1 w.params) (.ref 51) "__setattr__" = some (some (.builtin "object.__setattr__")) := by kernel_rfl
  refine set_plain X I hs (se_osa (s := { s with toks := s.toks + 1 }) X I ht fun b => se_store1 (s := { s with toks := s.toks + 1 }) X he ?_)
  have lo : ∀ p ∈ pre ++ (e, (⟨.ref 51, none, .fields vs, #[]⟩ : Obj)) :: post, p.1 < s.heap.objs.size := fun p hp => Heap.lt_size (N p hp).1
  have N1 : News h₀ L (s.heap.push emptyDict) (((s.heap.objs.size, emptyDict) :: pre) ++ (e, ⟨.ref 51, none, .fields vs, #[]⟩) :: post) := N.push F emptyDict
  obtain ⟨F2, N2⟩ := news_upd (f := fun o => { o with dict := some s.heap.objs.size }) (o' := ⟨.ref 51, some s.heap.objs.size, .fields vs, #[]⟩) (F.push emptyDict) N1 (by
    intro p hp
    rcases List.mem_cons.mp hp with rfl | hp
    · exact Nat.ne_of_gt (lo (e, ⟨.ref 51, none, .fields vs, #[]⟩) (by simp))
    · exact h1 p hp) h2 rfl rfl
  obtain ⟨F3, N3⟩ := news_upd (pre := []) (f := Obj.putName name (PyData.keyHash w.params name) (.str name (s.toks + 1)) v) (o' := dictOf [⟨PyData.keyHash w.params name, .str name (s.toks + 1), v⟩] 1) F2 N2 (fun p hp => nomatch hp) (by
    intro p hp
    rcases List.mem_append.mp hp with hp | hp
    · exact Nat.ne_of_lt (lo p (List.mem_append_left _ hp))
    · rcases List.mem_cons.mp hp with rfl | hp
      · exact Nat.ne_of_lt (lo (e, ⟨.ref 51, none, .fields vs, #[]⟩) (by simp))
      · exact Nat.ne_of_lt (lo p (List.mem_append_right _ (.tail _ hp)))) (by rw [show (emptyDict : Obj) = dictOf [] 0 from rfl, putName_dict]; rfl) rfl
  exact h _ _ F3 N3 lo
theorem set_exc2 {vs : Array Value} {dx : Addr} {es : List DictEntry} {n : Nat} {pre post : List (Addr × Obj)} {name : Str} {v : Value} {Q : Unit → Shared → Prop} (F : Fr h₀ L s.heap m) (X₀ : (Mine.hd.heap_1 w.params).In h₀) (N : News h₀ L s.heap (pre ++ (dx, dictOf es n) :: post))
    (h1 : ∀ p ∈ pre, p.1 ≠ dx) (h2 : ∀ p ∈ post, p.1 ≠ dx) (hm : (e, (⟨.ref 51, some dx, .fields vs, #[]⟩ : Obj)) ∈ pre ++ (dx, dictOf es n) :: post) (ht : takerIn (Mine.hd.heap_1 w.params) 51 name = some none)
    (hc : (!es.toArray.any (·.key.isStr name) && es.toArray.any (·.refKey)) = false) (hz : es.length ≤ 900)
    (h : ∀ h', Fr h₀ L h' m → News h₀ L h' (pre ++ (dx, dictOf (putL name (PyData.keyHash w.params name) (.str name (s.toks + 1)) v es) (putN name es n)) :: post) → Q () { s with heap := h', toks := s.toks + 2 }) :
    wpAny (model PySem.Challenge.rw_no0232_01.row.prog w) A (setAttr (.ref e) name v) Q E s := by
  have he := (N _ hm).1
  have hd := (N (dx, dictOf es n) (by simp)).1
  have X := X₀.keeps F.keep
  have I : InstAt s.heap e ⟨.ref 51, some dx, .fields vs, #[]⟩ 51 (some (dictOf es n)) := ⟨he, rfl, rfl, hd⟩
  have hs : findIn (Mine.hd.heap_1 w.params) (.ref 51) "__setattr__" = some (some (.builtin "object.__setattr__")) := by kernel_rfl
  refine set_plain X I hs (se_osa (s := { s with toks := s.toks + 1 }) X I ht fun b => se_store2 (s := { s with toks := s.toks + 1 }) X he hd hc hz ?_)
  obtain ⟨F3, N3⟩ := news_upd (f := Obj.putName name (PyData.keyHash w.params name) (.str name (s.toks + 1)) v) F N h1 h2 (putName_dict _ _ _ _ _ _) rfl
  exact h _ F3 N3
theorem meta_Exc : typeOf (.type "Exception") = pure (.type "type") := by kernel_rfl
theorem exc_initK {tp : Addr} {pre post : List (Addr × Obj)} {v : Value} {Q : Value → Shared → Prop} (F : Fr h₀ L s.heap m) (X₀ : (Mine.hd.heap_1 w.params).In h₀) (N : News h₀ L s.heap (pre ++ (e, excO tp) :: post))
    (h1 : ∀ p ∈ pre, p.1 ≠ e) (h2 : ∀ p ∈ post, p.1 ≠ e)
    (h : ∀ tp2 h', Fr h₀ L h' m → News h₀ L h' ((tp2, tupO [v]) :: (pre ++ (e, excO tp2) :: post)) → (∀ p ∈ pre ++ (e, excO tp) :: post, p.1 < tp2) → Q .none { s with heap := h' }) :
    wpAny (model PySem.Challenge.rw_no0232_01.row.prog w) A (call (.builtin "Exception.__init__") [.ref e, v]) Q E s := by
  revert X₀
  k_fill
  intro X₀
  have hC := F.keep _ _ (X₀ 51 _ (by k_is))
  have he := (N (e, excO tp) (by simp)).1
  have lo : ∀ p ∈ pre ++ (e, excO tp) :: post, p.1 < s.heap.objs.size := fun p hp => Heap.lt_size (N p hp).1
  have N1 : News h₀ L (s.heap.push (tupO [v])) (((s.heap.objs.size, tupO [v]) :: pre) ++ (e, excO tp) :: post) := N.push F (tupO [v])
  obtain ⟨F2, N2⟩ := news_upd (f := Obj.mapFields (·.setIfInBounds 0 (Value.ref s.heap.objs.size))) (o' := excO s.heap.objs.size) (F.push (tupO [v])) N1 (by
    intro p hp
    rcases List.mem_cons.mp hp with rfl | hp
    · exact Nat.ne_of_gt (lo (e, excO tp) (by simp))
    · exact h1 p hp) h2 rfl rfl
  obtain ⟨hh, g, d, t, os⟩ := s
  exact se_init ⟨by decide +kernel, by decide +kernel, by decide +kernel⟩ hC he (h _ _ F2 N2 lo)
end
end
theorem flush_SE4 {prog : Program} {w : World} {A : Around} {env : Env} {Q : Flow → Shared → Prop} {E : Value → Shared → Prop} {s : Shared} (h : wpAny (model prog w) A (execs [] env) Q E s) : wpAny (model prog w) A (execs [] env) Q E s := by
  w_top off
  first | (walk1; fail) | exact h
section
abbrev seO (tp dx : Addr) : Obj := { cls := .ref 51, dict := some dx, data := .fields #[.ref tp, .none, .none, .none, .bool false, .none] }
abbrev seD (w : World) (x : Str) (u : Tok) (i : Int) (t k1 k2 : Tok) (n : Nat) : Obj :=
  dictOf [⟨PyData.keyHash w.params (Str.ofString "text"), .str (Str.ofString "text") k1, .str x u⟩, ⟨PyData.keyHash w.params (Str.ofString "line"), .str (Str.ofString "line") k2, .int i t⟩] n
theorem seD_put (w : World) (x : Str) (u : Tok) (i : Int) (t k1 k2 : Tok) (n : Nat) : dictOf (putL (Str.ofString "line") (PyData.keyHash w.params (Str.ofString "line")) (.str (Str.ofString "line") k2) (.int i t) [⟨PyData.keyHash w.params (Str.ofString "text"), .str (Str.ofString "text") k1, .str x u⟩]) n = seD w x u i t k1 k2 n := by
  have : (Value.str (Str.ofString "text") k1).isStr (Str.ofString "line") = false := by
    show ((Str.ofString "text") == (Str.ofString "line")) = false
    decide +kernel
  unfold putL
  simp only [this]
  rfl
theorem c_se {w : World} {mean : ExcName → Option Value} {mg mb : Str → Option Value} {dp un : Nat} {gd : Option (List Code)} {cn : Str} {cs' : Scope} {a : Addr} {ccd : Value} {cl : List (Str × Addr)} {outer : List Env} {A₀ : Around} {base h₀ : Heap} {L : Addr} {m : Str → Option Value} {s : Shared} {Q E : Value → Shared → Prop} {news : List (Addr × Obj)} {i : Int} {t u : Tok} {x : Str}
  (B : Below A₀ base outer h₀) (F : Fr h₀ L s.heap m) (X : (Mine.hd.heap_1 w.params).In h₀) (N : News h₀ L s.heap news) (T : Top VW LS mean mg mb h₀) (hk : cs'.kind = .function) (hd : dp + 6 < recursionLimit) (hu : un + 40 < cLine)
  (hx : x.length ≤ 1000)
  (hret : ∀ h' tk' e tp tp2 dx k1 k2 n, Fr h₀ L h' m → News h₀ L h' ((dx, seD w x u i t k1 k2 n) :: (tp2, tupO [.str x u]) :: (e, seO tp2 dx) :: (tp, tupO [.int i t, .str x u]) :: news) → (∀ p ∈ news, p.1 < tp) → tp < e → Q (.ref e) { s with heap := h', toks := tk' }) :
  wpAny (model PySem.Challenge.rw_no0232_01.row.prog w) (ktrTop dp un gd cn cs' L a ccd cl outer) (call (.ref 51) [.int i t, .str x u]) Q E s := by
  revert X
  k_fill
  intro X

  refine call_SE0 F X N (by rw [sizeLine_eq]; exact Nat.le_of_ble_eq_true rfl) ?_
  intro e tp h' F' N' l1 l2
  refine wpAny_call ?_
  k_dflt cell_enter
  k_steps
  refine' method_type ?F ?X ?m (by decide +kernel) ?e ?h ?_
  case F => k_asm
  case X => k_asm
  case m => exact meta_Exc
  case e => k_is
  case h => k_handed
  k_steps
  refine' exc_initK (pre := []) ?F ?X ?N (fun p hp => nomatch hp) ?h2 ?_
  case F => k_asm
  case X => k_asm
  case N => k_asm
  case h2 =>
    intro p hp
    rcases List.mem_cons.mp hp with rfl | hp
    · exact Nat.ne_of_lt l2
    · exact Nat.ne_of_lt (Nat.lt_trans (l1 p hp) l2)
  intro tp2 h2 F2 N2 l3
  k_sweep
  k_steps
  refine' set_exc1 (pre := [(tp2, tupO [Value.str x u])]) ?F ?X ?N ?h1 ?h2 ?ht ?_
  case F => k_asm
  case X => k_asm
  case N => k_asm
  case h1 =>
    intro p hp
    rw [List.mem_singleton.mp hp]
    exact Nat.ne_of_gt (l3 (e, excO tp) (by simp))
  case h2 =>
    intro p hp
    rcases List.mem_cons.mp hp with rfl | hp
    · exact Nat.ne_of_lt l2
    · exact Nat.ne_of_lt (Nat.lt_trans (l1 p hp) l2)
  case ht => kernel_rfl
  intro dx h4 F4 N4 l4
  k_sweep
  k_steps
  refine' set_exc2 (e := e) (dx := dx) (vs := #[.ref tp2, .none, .none, .none, .bool false, .none]) (pre := []) ?F ?X ?N (fun p hp => nomatch hp) ?h2 ?hm ?ht ?hc ?hz ?_
  case F => k_asm
  case X => k_asm
  case N => k_asm
  case h2 => exact fun p hp => Nat.ne_of_lt (by
    rcases List.mem_cons.mp hp with rfl | hp
    · exact l4 _ (.head _)
    · rcases List.mem_cons.mp hp with rfl | hp
      · exact l4 (e, excO tp2) (by simp)
      · exact l4 p (by simp [hp]))
  case hm => simp
  case ht => kernel_rfl
  case hc => kernel_rfl
  case hz => exact Nat.le_of_ble_eq_true rfl
  intro h5 F5 N5
  rw [seD_put] at N5
  k_sweep
  k_steps
  exact hret _ _ _ _ _ _ _ _ _ (by assumption) (by assumption) l1 l2
end
theorem flush_SE3 {prog : Program} {w : World} {A : Around} {env : Env} {Q : Flow → Shared → Prop} {E : Value → Shared → Prop} {s : Shared} (h : wpAny (model prog w) A (execs [] env) Q E s) : wpAny (model prog w) A (execs [] env) Q E s := by
  w_top off
  first | (walk1; fail) | exact h
section
open Sem (wp)
section
variable {M : Model} {A : Around} {E : Value → Shared → Prop} {env : Env}
/-- SourceError's own object stands at 51 -/
def ClsAt51 (h : Heap) : Prop := ∃ (nm q : Str) (N : Addr) (bs : List Value) (hdct : Bool) (sn : List Str) (sub : List Value) (ab : Bool) (col : Option Bool) (dd : Option Addr) (k0 k1 k2 k3 k5 : Option Value),
  h.get? 51 = some (excClassObj nm q 51 N bs [.ref 31, .type "Exception", .type "BaseException", .type "object"] hdct sn sub ab col dd k0 k1 k2 k3 k5 "Exception.__new__")
theorem clsAt51 {w : World} {h : Heap} : PySem.Challenge.rw_no0232_01 = PySem.Challenge.rw_no0232_01 → (Mine.hd.heap_1 w.params).In h → ClsAt51 h := by
  k_fill
  intro _ X
  have hC := X 51 _ (by k_is)
  exact ⟨_, _, _, _, _, _, _, _, _, _, _, _, _, _, _, hC⟩
theorem se_raiseStmt {s : Shared} {x : Sem Value} {Q : Flow → Shared → Prop} (hh : A.handled = none)
    (h : wpAny M A x (fun v s₁ => ∃ e t dx, v = .ref e ∧ ClsAt51 s₁.heap ∧
      s₁.heap.get? e = some { cls := .ref 51, dict := some dx, data := .fields #[.ref t, .none, .none, .none, .bool false, .none] } ∧ E (.ref e) s₁) E s) :
    wpAny M A (raiseStmt env (some x) none) Q E s := by
  have hcB : (Value.ref 51 :: [.ref 31, .type "Exception", .type "BaseException", .type "object"]).contains (.type "BaseException") = true := by decide +kernel
  unfold raiseStmt
  refine wpAny_bind (wpAny_mono h (fun v s₁ h₁ => ?_) fun _ _ x => x)
  obtain ⟨e, t, dx, rfl, ⟨nm, q, N, bs, hdct, sn, sub, ab, col, dd, k0, k1, k2, k3, k5, hC⟩, he, hE⟩ := h₁
  obtain ⟨hp, g, d, tk, os⟩ := s₁
  repeat (first | with_reducible refine wpAny_loadPart_at he ?_ | with_reducible refine wpAny_loadPart_at hC ?_ | (with_reducible refine wpAny_isSubtype_exc hC ?_; rw [hcB]) | wp_step)
  exact wpAny_raiseNew_none hh hE
end
section
variable {w : World} {A : Around} {E : Value → Shared → Prop} {s : Shared} {env : Env}
/-- the value is a SourceError, made and not yet thrown, and may be thrown -/
def SERais (w : World) (E : Value → Shared → Prop) (v : Value) (s₁ : Shared) : Prop :=
  ∃ e t dx, v = .ref e ∧ (Mine.hd.heap_1 w.params).In s₁.heap ∧ s₁.heap.get? e = some (seO t dx) ∧ E (.ref e) s₁
theorem Raise_SE {e : Expr} {pos : Pos} {Q : Flow → Shared → Prop} (hh : A.handled = none)
    (h : wpAny (model PySem.Challenge.rw_no0232_01.row.prog w) A (eval e env) (SERais w E) E s) : wpAny (model PySem.Challenge.rw_no0232_01.row.prog w) A (exec (.Raise (some e) none pos) env) Q E s := by
  show wpAny _ A (do standAt pos; raiseStmt env (some (do let v ← eval e env; standAt pos; pure v)) none) Q E s
  refine wpAny_bind (wpAny_standAt ?_)
  refine se_raiseStmt hh (wpAny_bind (wpAny_mono h (fun v s₁ h₁ => wpAny_bind (wpAny_standAt (wpAny_pure ?_))) fun _ _ x => x))
  obtain ⟨a, t, dx, rfl, X, ha, hE⟩ := h₁
  exact ⟨a, t, dx, rfl, clsAt51 rfl X, ha, hE⟩
end
end
theorem flush_SE5 {prog : Program} {w : World} {A : Around} {env : Env} {Q : Flow → Shared → Prop} {E : Value → Shared → Prop} {s : Shared} (h : wpAny (model prog w) A (execs [] env) Q E s) : wpAny (model prog w) A (execs [] env) Q E s := by
  w_top off
  first | (walk1; fail) | exact h
section
open Sem (wp)
theorem dict_mapFields (o : Obj) (f) : (o.mapFields f).dict = o.dict := by
  obtain ⟨c, d, dt, sl⟩ := o; cases dt <;> rfl
/-- an exception of class 51 whose dict is dx, with a traceback whose flight mark is fl -/
def FlD (h base : Heap) (e dx : Addr) (fl : Value) : Prop :=
  ∃ oe vs T oT ts, h.get? e = some oe ∧ oe.cls = .ref 51 ∧ oe.dict = some dx ∧ oe.data = .fields vs ∧ vs[1]? = some (.ref T) ∧ base.get? T = none ∧ T ≠ e ∧ h.get? T = some oT ∧ oT.data = .fields ts ∧ ts[3]? = some fl
/-- it flies above the frames l -/
def Aloft (base : Heap) (l : List Env) (e dx : Addr) (fl : Value) (h : Heap) : Prop :=
  base.StaysIn h ∧ base.get? e = none ∧ h.FunFrames base l ∧ FlD h base e dx fl
section
variable {M : Model} {A : Around} {E : Value → Shared → Prop} {s : Shared} {base : Heap} {l : List Env} {e dx : Addr}
/-- a new entry of the traceback is laid and made the head -/
theorem fl_entry {env : Env} {outer : List Env} {L : Addr} {oe : Obj} {vs : Array Value} {head : Value} {hadNext : Bool} {Q : Unit → Shared → Prop}
    (hfr : A.frames = some (env :: outer)) (hl : s.heap.FunFrames base (env :: outer)) (hf : env.frame = some L)
    (he : s.heap.get? e = some oe) (hkb : base.StaysIn s.heap) (hen : base.get? e = none) (hcls : oe.cls = .ref 51) (hdx : oe.dict = some dx) (hd : oe.data = .fields vs) (hsz : 1 < vs.size)
    (h : ∀ h', Aloft base (env :: outer) e dx (rawInt L) h' → s.heap.UpToSlots h' → Q () { s with heap := h' }) :
    wpAny M A (do let a ← frameOf env; let pl ← entryPlaceOf L hadNext; let b ← EntryCells.newEntry head a .none (rawInt L) .none pl; setField (.ref e) 1 b) Q E s := by
  have hene : e ∉ (env :: outer).filterMap (·.frame) := fun hm => by
    obtain ⟨_, o, ho, hnf⟩ := hl.mem hm
    rw [he] at ho
    cases ho
    exact hnf vs hd
  refine wpAny_bind (wpAny_frameOf_fun hfr hl hf fun h₁ hs₁ => ?_)
  refine wpAny_bind (wpAny_entryPlaceOf fun pl hpl => ?_)
  unfold EntryCells.newEntry newFields
  refine wpAny_bind (wpAny_newObj_type ?_ (hpl.sizeOk5 _ _ _ _ _))
  generalize hoT : ({ cls := .type "traceback", dict := none, data := .fields ([head, .ref L, .none, rawInt L, .none] ++ (if pl.isEmpty then List.replicate 6 Value.none else pl)).toArray } : Obj) = oT
  have hoTd : ∃ ts, oT.data = .fields ts ∧ ts[3]? = some (rawInt L) := by
    subst hoT
    exact ⟨_, rfl, by simp⟩
  have hoTf : oT.isFreed = false := by subst hoT; rfl
  have he₁ : h₁.get? e = some oe := (hs₁.2.1 e hene).trans he
  have kb₁ : base.StaysIn h₁ := fun b o hbo => (hs₁.2.1 b fun hm => by rw [(hl.mem hm).1] at hbo; cases hbo).trans (hkb b o hbo)
  have he₂ := Heap.get?_push_of_some oT he₁
  have hTe : h₁.objs.size ≠ e := Nat.ne_of_gt (Heap.lt_size he₁)
  have hkeep : ∀ b o, b ≠ e → h₁.get? b = some o → ((h₁.push oT).update e (Obj.mapFields (·.setIfInBounds 1 (Value.ref h₁.objs.size)))).get? b = some o := by
    intro b o hbe hb
    rw [Heap.get?_update_other _ _ (Ne.symm hbe)]
    exact Heap.get?_push_of_some _ hb
  have noRec : ∀ b o, s.heap.get? b = some o → (∀ vs, o.data ≠ .fields vs) → b ≠ e := by
    intro b o hb hnf q
    rw [q, he] at hb
    cases hb
    exact hnf vs hd
  refine wpAny_setField he₂ hd hsz (h _ ?_ ?_)
  · obtain ⟨ts, hts, ht3⟩ := hoTd
    have hd₃ := Obj.data_mapFields hd (·.setIfInBounds 1 (Value.ref h₁.objs.size))
    have he₃ := Heap.get?_update_self (Obj.mapFields (·.setIfInBounds 1 (Value.ref h₁.objs.size))) he₂ (Obj.isFreed_of_fields hd₃)
    have hT₃ := (Heap.get?_update_other (h₁.push oT) (Obj.mapFields (·.setIfInBounds 1 (Value.ref h₁.objs.size))) (Ne.symm hTe)).trans (Heap.get?_push_size h₁ hoTf)
    refine ⟨fun b o hbo => hkeep b o (fun q => by rw [q, hen] at hbo; cases hbo) (kb₁ b o hbo), hen, hl.of_keeps fun b o hb hnf => ?_, ?_⟩
    · obtain ⟨sl, hs⟩ := hs₁.2.2 b o hb
      exact ⟨_, hkeep b _ (noRec b o hb hnf) hs, rfl⟩
    · exact ⟨_, _, h₁.objs.size, _, _, he₃, (Obj.cls_mapFields _ _).trans hcls, (dict_mapFields _ _).trans hdx, hd₃, by simp [hsz], kb₁.fresh, hTe, hT₃, hts, ht3⟩
  · intro b o hb hnf
    obtain ⟨sl, hs⟩ := hs₁.2.2 b o hb
    exact ⟨sl, hkeep b _ (noRec b o hb hnf) hs⟩
/-- the mark of the flight is taken off -/
theorem fl_setFlight {fl : Value} {Q : Unit → Shared → Prop} (hh : Aloft base l e dx fl s.heap)
    (h : ∀ h', Aloft base l e dx .none h' → s.heap.UpToSlots h' → Q () { s with heap := h' }) : wpAny M A (setFlight (.ref e) none) Q E s := by
  obtain ⟨hkb, hen, hl, oe, vs, T, oT, ts, he, hcls, hdx, hd, h1, hnT, hTe, hT, hdT, h3⟩ := hh
  have hsz3 : 3 < ts.size := (Array.getElem?_eq_some_iff.mp h3).1
  have other : ∀ b, b ≠ T → (s.heap.update T (Obj.mapFields (·.setIfInBounds 3 ((none : Option Addr).elim Value.none fun f => rawInt f)))).get? b = s.heap.get? b :=
    fun b hb => Heap.get?_update_other _ _ (Ne.symm hb)
  have noRec : ∀ b o, s.heap.get? b = some o → (∀ vs, o.data ≠ .fields vs) → b ≠ T := fun b o hb hnf q => by
    rw [q, hT] at hb
    cases hb
    exact hnf ts hdT
  unfold setFlight
  refine wpAny_bind (wpAny_field he hd h1 ?_)
  rw [if_pos (show (Value.ref T != Value.none) = true from by simp)]
  refine wpAny_setField hT hdT hsz3 (h _ ⟨fun b o hbo => (other b fun q => by rw [q, hnT] at hbo; cases hbo).trans (hkb b o hbo), hen,
    hl.of_keeps fun b o hb hnf => ⟨o, (other b (noRec b o hb hnf)).trans hb, rfl⟩, ?_⟩ fun b o hb hnf => ⟨o.slots, (other b (noRec b o hb hnf)).trans hb⟩)
  exact ⟨oe, vs, T, _, _, (other e (Ne.symm hTe)).trans he, hcls, hdx, hd, h1, hnT, hTe, Heap.get?_update_self _ hT (Obj.isFreed_of_fields (Obj.data_mapFields hdT _)), Obj.data_mapFields hdT _, by simp [hsz3]⟩
theorem Aloft.outer {env : Env} {outer : List Env} {fl : Value} {h : Heap} (x : Aloft base (env :: outer) e dx fl h) : Aloft base outer e dx fl h := by
  obtain ⟨x1, x2, ⟨_, _, x3⟩, x4⟩ := x
  exact ⟨x1, x2, x3, x4⟩
/-- a frame that it flies out of: the first one -/
theorem fl_first {env : Env} {outer : List Env} {L : Addr} {oe : Obj} {vs : Array Value} {Q : Unit → Shared → Prop}
    (hfr : A.frames = some (env :: outer)) (hl : s.heap.FunFrames base (env :: outer)) (hf : env.frame = some L)
    (he : s.heap.get? e = some oe) (hkb : base.StaysIn s.heap) (hen : base.get? e = none) (hcls : oe.cls = .ref 51) (hdx : oe.dict = some dx) (hd : oe.data = .fields vs) (h1 : vs[1]? = some .none)
    (h : ∀ h', Aloft base outer e dx .none h' → s.heap.UpToSlots h' → Q () { s with heap := h' }) : wpAny M A (leaving env (.ref e)) Q E s := by
  unfold leaving noteFrame
  simp only [hf]
  refine wpAny_bind (wpAny_bind (wpAny_field he hd h1 ?_))
  rw [if_neg (by decide)]
  refine fl_entry hfr hl hf he hkb hen hcls hdx hd (Array.getElem?_eq_some_iff.mp h1).1 fun h' hA hU => ?_
  exact fl_setFlight hA fun h'' hA' hU' => h h'' hA'.outer (hU.trans hU')
/-- the noting of a frame, by one that flies already -/
theorem fl_note {env : Env} {outer : List Env} {L : Addr} {Q : Unit → Shared → Prop}
    (hfr : A.frames = some (env :: outer)) (hf : env.frame = some L) (hh : Aloft base (env :: outer) e dx .none s.heap)
    (h : ∀ h', Aloft base (env :: outer) e dx (rawInt L) h' → s.heap.UpToSlots h' → Q () { s with heap := h' }) : wpAny M A (noteFrame (.ref e) env) Q E s := by
  obtain ⟨hkb, hen, hl, oe, vs, T, oT, ts, he, hcls, hdx, hd, h1, hnT, hTe, hT, hdT, h3⟩ := hh
  unfold noteFrame
  simp only [hf]
  refine wpAny_bind (wpAny_field he hd h1 ?_)
  rw [if_pos (show (Value.ref T != Value.none) = true from by simp)]
  refine wpAny_bind (wpAny_field hT hdT h3 ?_)
  rw [if_neg (show ¬ ((Value.none == rawInt L) = true) from by simp [rawInt])]
  refine wpAny_bind (wpAny_setField hT hdT (Array.getElem?_eq_some_iff.mp h3).1 ?_)
  have other : ∀ b, b ≠ T → (s.heap.update T (Obj.mapFields (·.setIfInBounds 3 Value.none))).get? b = s.heap.get? b := fun b hb => Heap.get?_update_other _ _ (Ne.symm hb)
  have noRec : ∀ b o, s.heap.get? b = some o → (∀ vs, o.data ≠ .fields vs) → b ≠ T := fun b o hb hnf q => by
    rw [q, hT] at hb
    cases hb
    exact hnf ts hdT
  refine fl_entry hfr (hl.of_keeps fun b o hb hnf => ⟨o, (other b (noRec b o hb hnf)).trans hb, rfl⟩) hf ((other e (Ne.symm hTe)).trans he)
    (fun b o hbo => (other b fun q => by rw [q, hnT] at hbo; cases hbo).trans (hkb b o hbo)) hen hcls hdx hd (Array.getElem?_eq_some_iff.mp h1).1
    fun h' hA hU => h h' hA fun b o hb hnf => hU b o ((other b (noRec b o hb hnf)).trans hb) hnf
/-- a further frame that it flies out of -/
theorem fl_next {env : Env} {outer : List Env} {L : Addr} {Q : Unit → Shared → Prop}
    (hfr : A.frames = some (env :: outer)) (hf : env.frame = some L) (hh : Aloft base (env :: outer) e dx .none s.heap)
    (h : ∀ h', Aloft base outer e dx .none h' → s.heap.UpToSlots h' → Q () { s with heap := h' }) : wpAny M A (leaving env (.ref e)) Q E s := by
  unfold leaving
  refine wpAny_bind (fl_note hfr hf hh fun h' hA hU => ?_)
  exact fl_setFlight hA fun h'' hA' hU' => h h'' hA'.outer (hU.trans hU')
end
end
theorem flush_SE6 {prog : Program} {w : World} {A : Around} {env : Env} {Q : Flow → Shared → Prop} {E : Value → Shared → Prop} {s : Shared} (h : wpAny (model prog w) A (execs [] env) Q E s) : wpAny (model prog w) A (execs [] env) Q E s := by
  w_top off
  first | (walk1; fail) | exact h
section
open Sem (wp)
/-- a SourceError of the line i flies above the frames l; the ledger news stands -/
def RaisedSE (w : World) (base : Heap) (l : List Env) (e : Addr) (i : Int) (news : List (Addr × Obj)) (h : Heap) : Prop :=
  ∃ (B : Heap) (dx : Addr) (x : Str) (u t k1 k2 : Tok) (n : Nat), base.StaysIn B ∧ (∀ q ∈ news, B.get? q.1 = some q.2 ∧ base.get? q.1 = none) ∧ Aloft B l e dx .none h ∧ base.get? e = none ∧ B.get? dx = some (seD w x u i t k1 k2 n) ∧ base.get? dx = none
theorem RaisedSE.sub {w : World} {base h : Heap} {l : List Env} {e : Addr} {i : Int} {news news' : List (Addr × Obj)} (R : RaisedSE w base l e i news' h) (hs : ∀ q ∈ news, q ∈ news') : RaisedSE w base l e i news h := by
  obtain ⟨B, dx, x, u, t, k1, k2, n, r1, r2, r3⟩ := R
  exact ⟨B, dx, x, u, t, k1, k2, n, r1, fun q hq => r2 q (hs q hq), r3⟩
section
variable {w : World} {M : Model} {A : Around} {E : Value → Shared → Prop} {s' : Shared} {base g g₂ : Heap} {outer : List Env} {L a e : Addr} {m : Str → Option Value} {name : Str} {scope : Scope} {cd : Value} {Q : Unit → Shared → Prop} {news news' : List (Addr × Obj)} {i : Int}
theorem leave_firstSE {tp dx : Addr} {x : Str} {u t k1 k2 : Tok} {n : Nat} (K : Below A base outer g) (F : Fr g L s'.heap m) (N : News g L s'.heap news') (hm1 : (e, seO tp dx) ∈ news') (hm2 : (dx, seD w x u i t k1 k2 n) ∈ news') (hde : dx ≠ e)
    (hsub : ∀ q ∈ news, q ∈ news') (hoff : ∀ q ∈ news, q.1 ≠ e)
    (hQ : ∀ h', RaisedSE w base outer e i news h' → g.UpToSlots h' → Q () { s' with heap := h' }) (hk : scope.kind = .function := by rfl) :
    wpAny M (A.deeper (envOf name scope L a cd)) (leaving (envOf name scope L a cd) (.ref e)) Q E s' := by
  have K' := K.push (name := name) (a := a) (cd := cd) F hk
  have hin : ∀ env ∈ (envOf name scope L a cd :: outer), ∀ b, env.frame = some b → b ∈ e :: (envOf name scope L a cd :: outer).filterMap (·.frame) := fun env he b hb => .tail _ (List.mem_filterMap.mpr ⟨env, he, hb⟩)
  have hoffF : ∀ q ∈ news', q.1 ∉ (envOf name scope L a cd :: outer).filterMap (·.frame) := by
    intro q hq hm
    obtain ⟨env, he, hf⟩ := List.mem_filterMap.mp hm
    rcases List.mem_cons.mp he with rfl | he
    · exact (N q hq).2.1 (Option.some.inj hf).symm
    · obtain ⟨o, ho, _⟩ := (K.frames.mem (List.mem_filterMap.mpr ⟨env, he, hf⟩)).2
      rw [(N q hq).2.2] at ho
      cases ho
  have fresh : ∀ q ∈ news', base.get? q.1 = none := fun q hq => fresh_of_stays K.stays (N q hq).2.2
  have hE := N _ hm1
  have hD := N _ hm2
  have st : base.StaysIn (hideAll s'.heap (e :: (envOf name scope L a cd :: outer).filterMap (·.frame))) := by
    intro b o q
    refine hideAll_get _ (K'.stays b o q) fun hm => ?_
    rcases List.mem_cons.mp hm with rfl | hm
    · have := fresh _ hm1
      dsimp only at this
      rw [this] at q
      cases q
    · rw [(K'.frames.mem hm).1] at q
      cases q
  refine fl_first (base := hideAll s'.heap (e :: (envOf name scope L a cd :: outer).filterMap (·.frame))) (dx := dx) K'.stack (funFrames_hide K'.frames hin) rfl hE.1 (fun b o q => of_hideAll _ q) (hideAll_none _ (.head _)) rfl rfl rfl rfl fun h' hA hU => ?_
  refine hQ h' ⟨_, dx, x, u, t, k1, k2, n, st, fun q hq => ⟨hideAll_get _ (N q (hsub q hq)).1 fun hm => ?_, fresh q (hsub q hq)⟩, hA, fresh _ hm1, hideAll_get _ hD.1 fun hm => ?_, fresh _ hm2⟩ ((Heap.UpToSlots.of_keeps F.keep).trans hU)
  · rcases List.mem_cons.mp hm with e' | hm
    · exact hoff q hq e'
    · exact hoffF q (hsub q hq) hm
  · rcases List.mem_cons.mp hm with e' | hm
    · exact hde e'
    · exact hoffF _ hm2 hm
theorem leave_nextSE (K : Below A base outer g) (F : Fr g L g₂ m) (R : RaisedSE w base (envOf name scope L a cd :: outer) e i news s'.heap) (hsm : g₂.UpToSlots s'.heap)
    (hQ : ∀ h', RaisedSE w base outer e i news h' → g.UpToSlots h' → Q () { s' with heap := h' }) :
    wpAny M (A.deeper (envOf name scope L a cd)) (leaving (envOf name scope L a cd) (.ref e)) Q E s' := by
  obtain ⟨B, dx, x, u, t, k1, k2, n, r1, r2, r3, r4, r5, r6⟩ := R
  refine fl_next (Around.frames_deeper K.stack) rfl r3 fun h' hA hU => ?_
  exact hQ h' ⟨B, dx, x, u, t, k1, k2, n, r1, r2, hA, r4, r5, r6⟩ ((Heap.UpToSlots.of_keeps F.keep).trans (hsm.trans hU))
theorem se_raise_end {E0 E1 : Value → Shared → Prop} {x : Str} {u t k1 k2 : Tok} {n : Nat} {tp tp2 dx : Addr} {T1 T2 : Obj} (K : Below A base outer g) (X : (Mine.hd.heap_1 w.params).In g) (F : Fr g L s'.heap m)
    (N : News g L s'.heap ((dx, seD w x u i t k1 k2 n) :: (tp2, T2) :: (e, seO tp2 dx) :: (tp, T1) :: news)) (l1 : ∀ p ∈ news, p.1 < tp) (l2 : tp < e)
    (hQ : ∀ h', RaisedSE w base outer e i news h' → g.UpToSlots h' → E0 (.ref e) { s' with heap := h' }) (hk : scope.kind = .function := by rfl) :
    SERais w (fun e s' => wpAny M (A.deeper (envOf name scope L a cd)) (leaving (envOf name scope L a cd) e) (fun _ s'' => E0 e s'') E1 s') (.ref e) s' := by
  have hE := (N (e, seO tp2 dx) (by simp)).1
  have hD := (N (dx, seD w x u i t k1 k2 n) (by simp)).1
  have hde : dx ≠ e := by
    intro q
    dsimp only at hE hD
    rw [q, hE] at hD
    cases hD
  refine ⟨e, tp2, dx, rfl, X.keeps F.keep, hE, ?_⟩
  exact leave_firstSE K F N (.tail _ (.tail _ (.head _))) (.head _) hde (fun q hq => .tail _ (.tail _ (.tail _ (.tail _ hq)))) (fun q hq => Nat.ne_of_lt (Nat.lt_trans (l1 q hq) l2)) hQ hk
end
end
theorem flush_SE7 {prog : Program} {w : World} {A : Around} {env : Env} {Q : Flow → Shared → Prop} {E : Value → Shared → Prop} {s : Shared} (h : wpAny (model prog w) A (execs [] env) Q E s) : wpAny (model prog w) A (execs [] env) Q E s := by
  w_top off
  first | (walk1; fail) | exact h
section
def isComment (row : Tx) (w : Nat) : Bool := decide (row.take 1 = [67]) || decide (row.take 1 = [99]) || decide (row.take 1 = [42]) || decide (nb (row.take w) = [])
theorem c_isc {w : World} {mean : ExcName → Option Value} {mg mb : Str → Option Value} {dp un : Nat} {gd : Option (List Code)} {cn : Str} {cs' : Scope} {a : Addr} {ccd : Value} {cl : List (Str × Addr)} {outer : List Env} {A₀ : Around} {base h₀ : Heap} {L : Addr} {m : Str → Option Value} {s : Shared} {Q E : Value → Shared → Prop} {news : List (Addr × Obj)} {l : Tx} {wd : Int} {t t2 : Tok}
  (B : Below A₀ base outer h₀) (F : Fr h₀ L s.heap m) (X : (Mine.hd.heap_1 w.params).In h₀) (N : News h₀ L s.heap news) (T : Top VW LS mean mg mb h₀) (hk : cs'.kind = .function) (hd : dp + 2 < recursionLimit) (hu : un + 16 < cLine)
  (hl : l.length ≤ 10000) (hw : 9 ≤ wd ∧ wd ≤ 14)
  (hret : ∀ h' tk', Fr h₀ L h' m → News h₀ L h' news → Q (.bool (isComment l wd.toNat)) { s with heap := h', toks := tk' }) :
  wpAny (model PySem.Challenge.rw_no0232_01.row.prog w) (ktrTop dp un gd cn cs' L a ccd cl outer) (call (.ref 95) [.str (S l) t, .int wd t2]) Q E s := by
  revert X
  k_fill
  intro X

  refine wpAny_call ?_
  k_dflt cell_enter
  k_steps
  all_goals (refine q_bool ?_ (hret _ _ (by assumption) (by assumption)); clear hret)
  all_goals (simp only [lit_C, lit_c, lit_star, lit_nil, S_beq, tn1, decide_eq_true_eq, decide_eq_false_iff_not, Bool.not_eq_true] at *)
  all_goals (unfold isComment)
  all_goals (simp [*])
end
theorem flush_C1 {prog : Program} {w : World} {A : Around} {env : Env} {Q : Flow → Shared → Prop} {E : Value → Shared → Prop} {s : Shared} (h : wpAny (model prog w) A (execs [] env) Q E s) : wpAny (model prog w) A (execs [] env) Q E s := by
  w_top off
  first | (walk1; fail) | exact h
section
structure Card where
  line : Int
  label : Tx
  mark : Tx
  body : Tx
/-- the ledger bears a card at x -/
def CardAt (w : World) (news : List (Addr × Obj)) (x : Addr) (c : Card) : Prop :=
  ∃ (dx : Addr) (k1 k2 k3 k4 t1 t2 t3 t4 : Tok) (n : Nat), (x, instObj 70 dx) ∈ news ∧
    (dx, dictOf [⟨PyData.keyHash w.params (Str.ofString "line"), .str (Str.ofString "line") k1, .int c.line t1⟩, ⟨PyData.keyHash w.params (Str.ofString "label"), .str (Str.ofString "label") k2, .str (S c.label) t2⟩,
      ⟨PyData.keyHash w.params (Str.ofString "mark"), .str (Str.ofString "mark") k3, .str (S c.mark) t3⟩, ⟨PyData.keyHash w.params (Str.ofString "body"), .str (Str.ofString "body") k4, .str (S c.body) t4⟩] n) ∈ news
def isCont (c : Card) : Bool := !decide (c.mark = [32]) && !decide (c.mark = [48])
theorem c_cont {w : World} {mean : ExcName → Option Value} {mg mb : Str → Option Value} {dp un : Nat} {gd : Option (List Code)} {cn : Str} {cs' : Scope} {a : Addr} {ccd : Value} {cl : List (Str × Addr)} {outer : List Env} {A₀ : Around} {base h₀ : Heap} {L : Addr} {m : Str → Option Value} {s : Shared} {Q E : Value → Shared → Prop} {news : List (Addr × Obj)} {x : Addr} {c : Card}
  (B : Below A₀ base outer h₀) (F : Fr h₀ L s.heap m) (X : (Mine.hd.heap_1 w.params).In h₀) (N : News h₀ L s.heap news) (T : Top VW LS mean mg mb h₀) (hk : cs'.kind = .function) (hd : dp + 1 < recursionLimit) (hu : un + 8 < cLine)
  (hc : CardAt w news x c)
  (hret : ∀ h' tk', Fr h₀ L h' m → News h₀ L h' news → Q (.bool (isCont c)) { s with heap := h', toks := tk' }) :
  wpAny (model PySem.Challenge.rw_no0232_01.row.prog w) (ktrTop dp un gd cn cs' L a ccd cl outer) (call (.ref 109) [.ref x]) Q E s := by
  revert X
  k_fill
  intro X

  obtain ⟨dx, k1, k2, k3, k4, t1, t2, t3, t4, n, hm1, hm2⟩ := hc
  refine wpAny_call ?_
  k_dflt cell_enter
  k_steps
  all_goals (refine q_bool ?_ (hret _ _ (by assumption) (by assumption)); clear hret)
  all_goals (simp only [bne, lit_sp, lit_0, S_beq, decide_eq_true_eq, decide_eq_false_iff_not, Bool.not_eq_true, Bool.not_eq_false, Bool.not_eq_true', Bool.not_eq_false'] at *)
  all_goals (unfold isCont)
  all_goals (simp [*])
end
theorem flush_C2 {prog : Program} {w : World} {A : Around} {env : Env} {Q : Flow → Shared → Prop} {E : Value → Shared → Prop} {s : Shared} (h : wpAny (model prog w) A (execs [] env) Q E s) : wpAny (model prog w) A (execs [] env) Q E s := by
  w_top off
  first | (walk1; fail) | exact h
section
open Builtin Builtin.Str
/-- the values are these texts -/
inductive TextsAre : List Value → List Tx → Prop
  | nil : TextsAre [] []
  | cons (r : Tx) (t : Tok) {vs : List Value} {rs : List Tx} : TextsAre vs rs → TextsAre (.str (S r) t :: vs) (r :: rs)
theorem TextsAre.length {vs : List Value} {rs : List Tx} (h : TextsAre vs rs) : vs.length = rs.length := by
  induction h with
  | nil => rfl
  | cons _ _ _ ih => rw [List.length_cons, List.length_cons, ih]
theorem TextsAre.get {vs : List Value} {rs : List Tx} (h : TextsAre vs rs) : ∀ {i : Nat} {r : Tx}, rs[i]? = some r → ∃ t, vs[i]? = some (.str (S r) t) := by
  induction h with
  | nil => intro i r hr; simp at hr
  | cons r t _ ih =>
    intro i r' hr
    cases i with
    | zero => exact ⟨t, by simp_all⟩
    | succ i => exact ih (by simpa using hr)
theorem TextsAre.got {vs : List Value} {rs : List Tx} (h : TextsAre vs rs) {i : Nat} {v : Value} (hv : vs[i]? = some v) : ∃ r t, rs[i]? = some r ∧ v = .str (S r) t := by
  have hi : i < rs.length := by rw [← h.length]; exact (List.getElem?_eq_some_iff.mp hv).1
  obtain ⟨t, ht⟩ := h.get (List.getElem?_eq_getElem hi)
  exact ⟨rs[i], t, List.getElem?_eq_getElem hi, by rw [hv] at ht; exact Option.some.inj ht⟩
theorem TextsAre.app {vs ws : List Value} {rs qs : List Tx} (h : TextsAre vs rs) (k : TextsAre ws qs) : TextsAre (vs ++ ws) (rs ++ qs) := by
  induction h with
  | nil => exact k
  | cons r t _ ih => exact .cons r t ih
theorem TextsAre.unsnoc {vs : List Value} {rs : List Tx} {r : Tx} (h : TextsAre vs (rs ++ [r])) : ∃ us t, vs = us ++ [.str (S r) t] ∧ TextsAre us rs := by
  induction rs generalizing vs with
  | nil => cases h with
    | cons r t h => cases h; exact ⟨[], t, rfl, .nil⟩
  | cons q rs ih => cases h with
    | cons _ t h =>
      obtain ⟨us, u, rfl, hu⟩ := ih h
      exact ⟨.str (S q) t :: us, u, rfl, .cons q t hu⟩
theorem TextsAre.of_values : ∀ l : List (Str × Tok), TextsAre (strValues l) (l.map (·.1.cps.toList))
  | [] => .nil
  | p :: r => by
    have := TextsAre.cons p.1.cps.toList p.2 (TextsAre.of_values r)
    rw [← S_of] at this
    exact this
def rowsOf (x : Str) : List Tx := (Txt.split x (Str.ofString "\n")).map (·.cps.toList)
theorem nl_len : (Str.ofString "\n").length = 1 := by decide +kernel
theorem rowsOf_short {x : Str} : ∀ r ∈ rowsOf x, r.length ≤ x.length := by
  intro r hr
  obtain ⟨y, hy, rfl⟩ := List.mem_map.mp hr
  have := PyProof.Rows.part_short hy
  simpa [Str.length] using this
theorem rowsOf_len (x : Str) : 1 ≤ (rowsOf x).length ∧ (rowsOf x).length ≤ x.length + 2 := by
  unfold rowsOf
  rw [List.length_map]
  unfold Txt.split
  split
  · simp
  · split
    · simp
    · have e1 := StrLaws.occ_length_le x (Str.ofString "\n") 0 x.length (x.length + 1)
      rw [length_partsBetween]
      omega
theorem list_snoc {α : Type} (l : List α) (h : 1 ≤ l.length) : ∃ p a, l = p ++ [a] := by
  have : l ≠ [] := by intro e; subst e; simp at h
  exact ⟨l.dropLast, l.getLast this, (List.dropLast_concat_getLast this).symm⟩
section
variable {prog : Program} {w : World} {A : Around} {E : Value → Shared → Prop} {s : Shared} {h₀ : Heap} {L l D : Addr} {m : Str → Option Value} {news news' : List (Addr × Obj)} {vs : List Value} {n : Nat} {t u : Tok} {Q : Value → Shared → Prop} {value slice : Expr} {x : Str}
theorem split_nl (F : Fr h₀ L s.heap m) (N : News h₀ L s.heap news) (hx : x.length ≤ 10000)
    (h : ∀ D vs h' k, TextsAre vs (rowsOf x) → vs.length = (rowsOf x).length → Fr h₀ L h' m → News h₀ L h' ((D, listOf vs.toArray 0) :: news) → (∀ p ∈ news, p.1 < D) → Q (.ref D) { s with heap := h', toks := k }) :
    wpAny (model prog w) A (call (.builtin "str.split") [.str x t, .str (Str.ofString "\n") u]) Q E s := by
  refine KSpl.split1 F N (by decide +kernel) (fun D l h' k e _ F' N' lo => ?_) (by rw [sizeLine_eq]; omega)
  have T := TextsAre.of_values l
  have e2 : l.map (·.1.cps.toList) = rowsOf x := by
    unfold rowsOf
    rw [← e, List.map_map]
    rfl
  rw [e2] at T
  exact h D _ h' k T T.length F' N' lo
theorem item_newsN {k : Int} {i : Nat} {v : Value} (N : News h₀ L s.heap news) (hm : (l, listOf vs.toArray n) ∈ news) (hx : vs[i]? = some v) (hk : k = (i : Int)) (hhi : k < 2 ^ 62) (h : Q v s)
    (hs : subscripted slice false (.ref l) (.int k u) = operate [.ref l, .int k u] (getItem (.ref l) (.int k u)) := by with_unfolding_all rfl) :
    wpAny (model prog w) A (subscriptTail value slice (.ref l) (.int k u)) Q E s :=
  item_news N hm (by omega) hhi (by rw [hk, Int.toNat_natCast]; exact hx) h hs
theorem append_L {v : Value} (F : Fr h₀ L s.heap m) (N : News h₀ L s.heap news) (U : Upd D (listOf vs.toArray n) (listOf (vs ++ [v]).toArray (n + 1)) news news')
    (h : ∀ h', Fr h₀ L h' m → News h₀ L h' news' → Q .none { s with heap := h' }) (hsz : vs.length ≤ 100000) : wpAny (model prog w) A (call (.builtin "list.append") [.ref D, v]) Q E s := by
  refine append_K (its := vs.toArray) (n := n) F N ?_ h ?_
  · rw [List.push_toArray]
    exact U
  · rw [List.size_toArray, sizeLine_eq]; omega
theorem pop_L {v : Value} (F : Fr h₀ L s.heap m) (N : News h₀ L s.heap news) (U : Upd D (listOf (vs ++ [v]).toArray n) (listOf vs.toArray (n + 1)) news news') (hz : vs.length ≤ 100000)
    (h : ∀ h', Fr h₀ L h' m → News h₀ L h' news' → Q v { s with heap := h' }) : wpAny (model prog w) A (call (.builtin "list.pop") [.ref D]) Q E s := by
  refine kl_pop F N (p := vs) (y := v) ?_ U (by simp only [List.length_append, List.length_cons, List.length_nil]; rw [sizeLine_eq]; omega) h
  simpa using kpa_last v vs
end
def Above (own news : List (Addr × Obj)) : Prop := ∀ q ∈ news, ∀ p ∈ own, q.1 < p.1
theorem Above.nil {news : List (Addr × Obj)} : Above [] news := fun _ _ _ h => nomatch h
theorem Above.cons {own news : List (Addr × Obj)} {d : Addr} {o : Obj} (h : ∀ q ∈ news, q.1 < d) (k : Above own news) : Above ((d, o) :: own) news := fun q hq p hp => by
  rcases List.mem_cons.mp hp with rfl | hp
  · exact h q hq
  · exact k q hq p hp
theorem Above.app {own own' news : List (Addr × Obj)} (h : Above own news) (k : Above own' news) : Above (own ++ own') news := fun q hq p hp =>
  (List.mem_append.mp hp).elim (h q hq p) (k q hq p)
theorem Above.off {own news : List (Addr × Obj)} (h : Above own news) {a : Addr} {o : Obj} (hm : (a, o) ∈ news) : ∀ p ∈ own, p.1 ≠ a := fun p hp => Nat.ne_of_gt (h _ hm p hp)
theorem allLt_to {d : Addr} : ∀ {l : List (Addr × Obj)}, AllLt d l → ∀ p ∈ l, p.1 < d
  | [], _ => fun _ h => nomatch h
  | _ :: _, h => fun p hp => by
    rcases List.mem_cons.mp hp with rfl | hp
    · exact h.1
    · exact allLt_to h.2 p hp
/-- the values are tuples of a number and a row, the numbers from 1 -/
structure RowsAt (own : List (Addr × Obj)) (vs : List Value) (rows : List Tx) : Prop where
  len : vs.length = rows.length
  at' : ∀ i r, rows[i]? = some r → ∃ d t u, vs[i]? = some (.ref d) ∧ (d, tupO [.int ((i + 1 : Nat) : Int) t, .str (S r) u]) ∈ own
theorem RowsAt.nil {own : List (Addr × Obj)} : RowsAt own [] [] := ⟨rfl, fun i r h => by simp at h⟩
theorem RowsAt.mono {own own' : List (Addr × Obj)} {vs : List Value} {rows : List Tx} (h : RowsAt own vs rows) (hs : ∀ p ∈ own, p ∈ own') : RowsAt own' vs rows :=
  ⟨h.len, fun i r hr => let ⟨d, t, u, h1, h2⟩ := h.at' i r hr; ⟨d, t, u, h1, hs _ h2⟩⟩
theorem RowsAt.snoc {own : List (Addr × Obj)} {vs : List Value} {rows : List Tx} {d : Addr} {k : Int} {r : Tx} {t u : Tok} (h : RowsAt own vs rows) (hk : k = ((rows.length + 1 : Nat) : Int)) (hm : (d, tupO [.int k t, .str (S r) u]) ∈ own) : RowsAt own (vs ++ [.ref d]) (rows ++ [r]) := by
  refine ⟨by simp [h.len], fun i q hq => ?_⟩
  rcases Nat.lt_or_ge i rows.length with hi | hi
  · rw [List.getElem?_append_left hi] at hq
    obtain ⟨d', t', u', h1, h2⟩ := h.at' i q hq
    exact ⟨d', t', u', by rw [List.getElem?_append_left (by rw [h.len]; exact hi)]; exact h1, h2⟩
  · rw [List.getElem?_append_right hi] at hq
    have e : i - rows.length = 0 := by
      rcases Nat.eq_zero_or_pos (i - rows.length) with e | e
      · exact e
      · rw [List.getElem?_eq_none (by simp; omega)] at hq; cases hq
    rw [e] at hq
    have ei : i = rows.length := by omega
    subst ei
    have : r = q := by simpa using hq
    subst this
    subst hk
    exact ⟨d, t, u, by rw [← h.len]; simp, hm⟩
/-- the rows but for an empty last one -/
def cutLast (rows : List Tx) : List Tx := if rows.getLast? = some [] then rows.dropLast else rows
theorem cutLast_app (rp : List Tx) (r : Tx) : cutLast (rp ++ [r]) = if r = [] then rp else rp ++ [r] := by
  unfold cutLast
  simp
theorem cutLast_sub (rows : List Tx) : ∀ r ∈ cutLast rows, r ∈ rows := by
  intro r h
  unfold cutLast at h
  split at h
  · exact List.dropLast_subset _ h
  · exact h
theorem take_snoc {α : Type} {l : List α} {i : Nat} {r : α} (h : l[i]? = some r) : l.take (i + 1) = l.take i ++ [r] := by
  rw [List.take_add_one, h]; rfl
theorem drop_take1 (l : Tx) (i : Nat) (h : i < l.length) : (l.drop i).take 1 = [l[i]] := by
  rw [List.drop_eq_getElem_cons h]; rfl
theorem txt_item (l : Tx) (i : Int) (h0 : 0 ≤ i) (hi : i < l.length) : Txt.item (S l) i = S ((l.drop i.toNat).take 1) := by
  have hi' : i.toNat < l.length := by omega
  have e : Txt.charAt (S l) i = some l[i.toNat] := by
    unfold Txt.charAt seqIndex?
    rw [S_len, if_neg (by omega : ¬ i < 0)]
    simp only []
    rw [if_pos (by simp; omega)]
    show (S l).cps[i.toNat]? = _
    rw [S_cps]
    simp [hi']
  unfold Txt.item
  rw [e, drop_take1 l _ hi']
  rfl
section
variable {prog : Program} {w : World} {A : Around} {E : Value → Shared → Prop} {s : Shared} {h₀ : Heap} {l : Tx} {t u : Tok} {Q : Value → Shared → Prop} {value slice : Expr}
theorem len_S (hl : l.length ≤ 100000) (h : ∀ t' k, Q (.int (l.length : Int) t') { s with toks := k }) : wpAny (model prog w) A (call (.builtin "len") [.str (S l) t]) Q E s :=
  P.len_str (by rw [S_len]; omega) (by rw [S_len]; exact h _ _)
theorem item_S {i : Int} (h0 : 0 ≤ i) (hi : i < l.length) (hl : l.length ≤ 100000) (h : ∀ t' k, Q (.str (S ((l.drop i.toNat).take 1)) t') { s with toks := k })
    (hs : subscripted slice false (.str (S l) t) (.int i u) = operate [.str (S l) t, .int i u] (getItem (.str (S l) t) (.int i u)) := by with_unfolding_all rfl)
    (ht : ∀ r, letTemporaryGo value (.str (S l) t) r = pure () := by intro _; with_unfolding_all rfl) :
    wpAny (model prog w) A (subscriptTail value slice (.str (S l) t) (.int i u)) Q E s :=
  item_str (fitsSsize_of (N := 1000000) (by omega) (by omega) (by decide)) (by rw [S_len]; omega) (by rw [S_len]; omega) (fun _ => by rw [txt_item l i h0 hi]; exact h _ _) hs ht
theorem mul_S {n : Int} (hlo : -100000 ≤ n) (hn : n ≤ 100000) (h : ∀ t' k, Q (.str (S (blanks n.toNat)) t') { s with toks := k }) : wpAny (model prog w) A (binaryOp .Mult (.str (Str.ofString " ") t) (.int n u)) Q E s := by
  refine SB.mul (mulOk_of 1 100000 (by decide +kernel) hn (by omega) (by decide) (by decide)) fun t' k => ?_
  rw [S_mul]
  exact h t' k
end
/-- a fact that no line finds -/
inductive Kept (P : Prop) : Prop
  | mk : P → Kept P
theorem Kept.out {P : Prop} : Kept P → P
  | ⟨h⟩ => h
end
theorem flush_Base2 {prog : Program} {w : World} {A : Around} {env : Env} {Q : Flow → Shared → Prop} {E : Value → Shared → Prop} {s : Shared} (h : wpAny (model prog w) A (execs [] env) Q E s) : wpAny (model prog w) A (execs [] env) Q E s := by
  w_top off
  first | (walk1; fail) | exact h
local macro_rules | `(tactic| walk_at "call ref") => `(tactic| (k_here; (with_reducible show wpAny _ _ (call (Value.ref 51) [Value.int _ _, Value.str _ _]) _ _ _); k_dflt (refine' c_se ?B ?F ?X ?N ?T ?hk ?hd ?hu ?hx ?_; (case B => k_asm); (case F => k_asm); (case X => k_asm); (case N => k_asm); (case T => k_asm); (case hk => first | exact rfl | assumption); (case hd => ktr_room); (case hu => ktr_units); (case hx => exact Nat.le_of_ble_eq_true rfl); k_whole); intro h' tk' e' tp' tp2' dx' k1' k2' n' F' N' l1' l2'; (try k_sweep); k_dflt (refine se_raise_end (by k_asm) (by k_asm) (by k_asm) (by k_asm) l1' l2' ?_)))
local macro_rules | `(tactic| walk_at "exec Raise") => `(tactic| (k_here; k_dflt (refine Raise_SE (by rfl) ?_)))
local macro_rules | `(tactic| walk_at "exec Raise some none") => `(tactic| (k_here; k_dflt (refine Raise_SE (by rfl) ?_)))
section
/-- the ledger bears the limits at lm -/
def LimAt (w : World) (news : List (Addr × Obj)) (lm : Addr) (wd most : Int) : Prop :=
  ∃ (dx : Addr) (k1 k2 k3 k4 k5 k6 k7 k8 t1 t2 t3 t4 t5 t6 t7 t8 : Tok) (n : Nat), (lm, instObj 169 dx) ∈ news ∧
    (dx, dictOf [⟨PyData.keyHash w.params (Str.ofString "width"), .str (Str.ofString "width") k1, .int 32 t1⟩, ⟨PyData.keyHash w.params (Str.ofString "real_digits"), .str (Str.ofString "real_digits") k2, .int 7 t2⟩,
      ⟨PyData.keyHash w.params (Str.ofString "double_digits"), .str (Str.ofString "double_digits") k3, .int 15 t3⟩, ⟨PyData.keyHash w.params (Str.ofString "top_exponent"), .str (Str.ofString "top_exponent") k4, .int 38 t4⟩,
      ⟨PyData.keyHash w.params (Str.ofString "steps"), .str (Str.ofString "steps") k5, .int 1000000 t5⟩, ⟨PyData.keyHash w.params (Str.ofString "continuations"), .str (Str.ofString "continuations") k6, .int most t6⟩,
      ⟨PyData.keyHash w.params (Str.ofString "columns"), .str (Str.ofString "columns") k7, .int wd t7⟩, ⟨PyData.keyHash w.params (Str.ofString "depth"), .str (Str.ofString "depth") k8, .int 40 t8⟩] n) ∈ news
/-- the values are cards -/
inductive CardsAt (w : World) (news : List (Addr × Obj)) : List Value → List Card → Prop
  | nil : CardsAt w news [] []
  | cons {x : Addr} {vs : List Value} {c : Card} {cs : List Card} : CardAt w news x c → CardsAt w news vs cs → CardsAt w news (.ref x :: vs) (c :: cs)
theorem CardsAt.length {w : World} {news : List (Addr × Obj)} {vs : List Value} {cs : List Card} (h : CardsAt w news vs cs) : vs.length = cs.length := by
  induction h with
  | nil => rfl
  | cons _ _ ih => rw [List.length_cons, List.length_cons, ih]
theorem CardAt.mono {w : World} {news news' : List (Addr × Obj)} {x : Addr} {c : Card} (h : CardAt w news x c) (hs : ∀ p ∈ news, p ∈ news') : CardAt w news' x c := by
  obtain ⟨dx, k1, k2, k3, k4, t1, t2, t3, t4, n, h1, h2⟩ := h
  exact ⟨dx, k1, k2, k3, k4, t1, t2, t3, t4, n, hs _ h1, hs _ h2⟩
theorem CardAt.intro {w : World} {news : List (Addr × Obj)} {x dx : Addr} {c : Card} {k1 k2 k3 k4 t1 t2 t3 t4 : Tok} {n : Nat} (h1 : (x, instObj 70 dx) ∈ news)
    (h2 : (dx, dictOf [⟨PyData.keyHash w.params (Str.ofString "line"), .str (Str.ofString "line") k1, .int c.line t1⟩, ⟨PyData.keyHash w.params (Str.ofString "label"), .str (Str.ofString "label") k2, .str (S c.label) t2⟩,
      ⟨PyData.keyHash w.params (Str.ofString "mark"), .str (Str.ofString "mark") k3, .str (S c.mark) t3⟩, ⟨PyData.keyHash w.params (Str.ofString "body"), .str (Str.ofString "body") k4, .str (S c.body) t4⟩] n) ∈ news) : CardAt w news x c :=
  ⟨dx, k1, k2, k3, k4, t1, t2, t3, t4, n, h1, h2⟩
theorem CardsAt.mono {w : World} {news news' : List (Addr × Obj)} {vs : List Value} {cs : List Card} (h : CardsAt w news vs cs) (hs : ∀ p ∈ news, p ∈ news') : CardsAt w news' vs cs := by
  induction h with
  | nil => exact .nil
  | cons h _ ih => exact .cons (h.mono hs) ih
theorem CardsAt.snoc {w : World} {news : List (Addr × Obj)} {vs : List Value} {cs : List Card} {x : Addr} {c : Card} (h : CardsAt w news vs cs) (k : CardAt w news x c) : CardsAt w news (vs ++ [.ref x]) (cs ++ [c]) := by
  induction h with
  | nil => exact .cons k .nil
  | cons h _ ih => exact .cons h ih
theorem CardsAt.got {w : World} {news : List (Addr × Obj)} {vs : List Value} {cs : List Card} (h : CardsAt w news vs cs) : ∀ {i : Nat} {v : Value}, vs[i]? = some v → ∃ x c, v = .ref x ∧ cs[i]? = some c ∧ CardAt w news x c := by
  induction h with
  | nil => intro i v hv; simp at hv
  | cons h _ ih =>
    intro i v hv
    cases i with
    | zero => exact ⟨_, _, by simpa using hv.symm, by simp, h⟩
    | succ i => exact ih (by simpa using hv)
theorem LimAt.mono {w : World} {news news' : List (Addr × Obj)} {lm : Addr} {wd most : Int} (h : LimAt w news lm wd most) (hs : ∀ p ∈ news, p ∈ news') : LimAt w news' lm wd most := by
  obtain ⟨dx, k1, k2, k3, k4, k5, k6, k7, k8, t1, t2, t3, t4, t5, t6, t7, t8, n, h1, h2⟩ := h
  exact ⟨dx, k1, k2, k3, k4, k5, k6, k7, k8, t1, t2, t3, t4, t5, t6, t7, t8, n, hs _ h1, hs _ h2⟩
def bodyOk (c : Card) : Prop := c.label.length ≤ 5 ∧ c.mark.length ≤ 1 ∧ c.body.length ≤ 20
def chkBad (c : Card) (cs : List Card) (most : Int) : Bool := match cs with
  | [] => true
  | c0 :: r => !decide (nb c.label = []) || decide (most < (r.length + 1 : Nat)) || decide (nb c0.body = [69, 78, 68])
theorem c_chk {w : World} {mean : ExcName → Option Value} {mg mb : Str → Option Value} {dp un : Nat} {gd : Option (List Code)} {cn : Str} {cs' : Scope} {a : Addr} {ccd : Value} {cl : List (Str × Addr)} {outer : List Env} {A₀ : Around} {base h₀ : Heap} {L : Addr} {m : Str → Option Value} {s : Shared} {Q E : Value → Shared → Prop} {news : List (Addr × Obj)} {x l lm : Addr} {c : Card} {cs : List Card} {vs : List Value} {n2 : Nat} {wd most : Int}
  (B : Below A₀ base outer h₀) (F : Fr h₀ L s.heap m) (X : (Mine.hd.heap_1 w.params).In h₀) (N : News h₀ L s.heap news) (T : Top VW LS mean mg mb h₀) (hk : cs'.kind = .function) (hd : dp + 8 < recursionLimit) (hu : un + 64 < cLine)
  (hc : CardAt w news x c) (hcs : CardsAt w news vs cs) (hl : (l, listOf vs.toArray n2) ∈ news) (hlim : LimAt w news lm wd most) (hlen : cs.length ≤ 1000) (hbc : bodyOk c) (hbs : ∀ d ∈ cs, bodyOk d) (hexc : chkBad c cs most = true → ∀ e h' tk' g₂, RaisedSE w base (envX cn cs' L a ccd cl :: outer) e c.line news h' → g₂.UpToSlots h' → Fr h₀ L g₂ m → E (.ref e) { s with heap := h', toks := tk' })
  (hret : chkBad c cs most = false → ∀ h' tk', Fr h₀ L h' m → News h₀ L h' news → Q .none { s with heap := h', toks := tk' }) :
  wpAny (model PySem.Challenge.rw_no0232_01.row.prog w) (ktrTop dp un gd cn cs' L a ccd cl outer) (call (.ref 137) [.ref x, .ref l, .ref lm]) Q E s := by
  revert X
  k_fill
  intro X

  obtain ⟨dx, k1, k2, k3, k4, t1, t2, t3, t4, n, hm1, hm2⟩ := hc
  obtain ⟨hb1, hb2, hb3⟩ := hbc
  cases hcs with
  | nil =>
    refine wpAny_call ?_
    k_dflt cell_enter
    k_steps
    all_goals exact hexc rfl _ _ _ _ (by assumption) (by assumption) (by assumption)
  | @cons x0 vs' c0 r hc0 hr =>
    have hlr := hr.length
    have hb0 := (hbs c0 (.head _)).2.2
    rw [List.length_cons] at hlen
    obtain ⟨dy, j1, j2, j3, j4, u1, u2, u3, u4, n3, hm3, hm4⟩ := hc0
    obtain ⟨dl, q1, q2, q3, q4, q5, q6, q7, q8, v1, v2, v3, v4, v5, v6, v7, v8, n4, hm5, hm6⟩ := hlim
    refine wpAny_call ?_
    k_dflt cell_enter
    k_steps
    all_goals first
      | refine hexc ?_ _ _ _ _ (by assumption) (by assumption) (by assumption)
      | refine hret ?_ _ _ (by assumption) (by assumption)
    all_goals clear hexc hret
    all_goals (simp only [bne, lit_nil, lit_END, S_beq, List.length_cons, decide_eq_true_eq, decide_eq_false_iff_not, Bool.not_eq_true, Bool.not_eq_false, Bool.not_eq_true', Bool.not_eq_false'] at *)
    all_goals (unfold chkBad)
    all_goals trace_state
    all_goals (simp_all)
    all_goals omega
end
theorem flush_C3 {prog : Program} {w : World} {A : Around} {env : Env} {Q : Flow → Shared → Prop} {E : Value → Shared → Prop} {s : Shared} (h : wpAny (model prog w) A (execs [] env) Q E s) : wpAny (model prog w) A (execs [] env) Q E s := by
  w_top off
  first | (walk1; fail) | exact h
section
noncomputable def labGo : Tx → Int → Option Int
  | [], a => some a
  | c :: r, a => if 48 ≤ c ∧ c ≤ 57 then labGo r (a * 10 + ((c : Int) - 48)) else none
noncomputable def readLabel (lab : Tx) : Option Int := if nb lab = [] then some 0 else match labGo (nb lab) 0 with
  | some v => if v = 0 then none else some v
  | none => none
theorem labGo_app (a b : Tx) : ∀ x, labGo (a ++ b) x = (labGo a x).bind fun v => labGo b v := by
  induction a with
  | nil => intro x; rfl
  | cons c r ih =>
    intro x
    simp only [List.cons_append, labGo]
    split
    · exact ih _
    · rfl
theorem labGo_step {l : Tx} {i : Nat} {c : Nat} {v : Int} (hc : l[i]? = some c) (hv : labGo (l.take i) 0 = some v) : labGo (l.take (i + 1)) 0 = if 48 ≤ c ∧ c ≤ 57 then some (v * 10 + ((c : Int) - 48)) else none := by
  rw [List.take_add_one, hc, labGo_app, hv]
  rfl
theorem labGo_bad {l : Tx} {i : Nat} {c : Nat} {v : Int} (hc : l[i]? = some c) (hv : labGo (l.take i) 0 = some v) (hn : ¬ (48 ≤ c ∧ c ≤ 57)) : labGo l 0 = none := by
  have h := labGo_step hc hv
  rw [if_neg hn] at h
  rw [← List.take_append_drop (i + 1) l, labGo_app, h]
  rfl
theorem c_lab {w : World} {mean : ExcName → Option Value} {mg mb : Str → Option Value} {dp un : Nat} {gd : Option (List Code)} {cn : Str} {cs' : Scope} {a : Addr} {ccd : Value} {cl : List (Str × Addr)} {outer : List Env} {A₀ : Around} {base h₀ : Heap} {L : Addr} {m : Str → Option Value} {s : Shared} {Q E : Value → Shared → Prop} {news : List (Addr × Obj)} {x : Addr} {c : Card}
  (B : Below A₀ base outer h₀) (F : Fr h₀ L s.heap m) (X : (Mine.hd.heap_1 w.params).In h₀) (N : News h₀ L s.heap news) (T : Top VW LS mean mg mb h₀) (hk : cs'.kind = .function) (hd : dp + 8 < recursionLimit) (hu : un + 64 < cLine)
  (hc : CardAt w news x c) (hbc : bodyOk c) (hexc : readLabel c.label = none → ∀ e h' tk' g₂, RaisedSE w base (envX cn cs' L a ccd cl :: outer) e c.line news h' → g₂.UpToSlots h' → Fr h₀ L g₂ m → E (.ref e) { s with heap := h', toks := tk' })
  (hret : ∀ v, readLabel c.label = some v → ∀ t h' tk', Fr h₀ L h' m → News h₀ L h' news → Q (.int v t) { s with heap := h', toks := tk' }) :
  wpAny (model PySem.Challenge.rw_no0232_01.row.prog w) (ktrTop dp un gd cn cs' L a ccd cl outer) (call (.ref 116) [.ref x]) Q E s := by
  revert X
  k_fill
  intro X

  obtain ⟨dx, k1, k2, k3, k4, t1, t2, t3, t4, n, hm1, hm2⟩ := hc
  obtain ⟨hb1, hb2, hb3⟩ := hbc
  refine wpAny_call ?_
  k_dflt cell_enter
  k_steps
  · exact hret 0 (by unfold readLabel; simp_all [lit_nil, S_beq]) _ _ _ (by assumption) (by assumption)
  · have hne : nb c.label ≠ [] := by simp_all [lit_nil, S_beq]
    have hnl : (nb c.label).length ≤ 5 := Nat.le_trans (nb_len _) hb1
    refine Stop.go ?_
    rename Fr _ _ _ _ => F'
    rename News _ _ _ _ => N'
    with_unfolding_all refine For_invVF F' (by rfl) (by rfl) ?_
    walk1
    refine' loop_str (σ := Int × Tok) (fun st => [(Str.ofString "label", .int st.1 st.2)]) [Str.ofString "digit"] (fun i st => labGo ((nb c.label).take i) 0 = some st.1 ∧ 0 ≤ st.1 ∧ st.1 < (10 : Int) ^ i) (0, _) rfl F' N' ?_ ⟨rfl, Int.le_refl 0, (show (0 : Int) < 10 ^ 0 from by decide)⟩ ?_ ?_
    rotate_left
    · intro p hp
      rw [List.mem_singleton.mp hp]
      with_unfolding_all rfl
    · intro i ch st t u h tk own hc hP F1 N1
      clear F' N'
      have hc' : (nb c.label)[i]? = some ch := by simpa [S] using hc
      obtain ⟨p1, p2, p3⟩ := hP
      have hi : i < 5 := Nat.lt_of_lt_of_le (List.getElem?_eq_some_iff.mp hc').1 hnl
      have p4 : st.1 < 100000 := Int.lt_of_lt_of_le p3 (by
        have : i = 0 ∨ i = 1 ∨ i = 2 ∨ i = 3 ∨ i = 4 := by omega
        rcases this with rfl | rfl | rfl | rfl | rfl <;> decide)
      have hf := find_dig ch
      have hst := labGo_step hc' p1
      k_steps
      · refine hexc ?_ _ _ _ _ (RaisedSE.sub (by assumption) (fun q hq => List.mem_append_left _ hq)) (by assumption) (by assumption)
        have hn : ¬ (48 ≤ ch ∧ ch ≤ 57) := by
          intro hd
          rw [if_pos hd] at hf
          omega
        unfold readLabel
        rw [if_neg hne, labGo_bad hc' p1 hn]
      · have hd : 48 ≤ ch ∧ ch ≤ 57 := by
          refine Classical.byContradiction fun hn => ?_
          rw [if_neg hn] at hf
          omega
        rw [if_pos hd] at hf hst
        refine' ⟨_, _, _, _, (st.1 * 10 + ((ch : Int) - 48), _), rfl, by assumption, by assumption, fun p hp => hp, ⟨hst, by omega, ?pw⟩, ?sy, ?fr⟩
        case pw =>
          have : (10 : Int) ^ (i + 1) = 10 ^ i * 10 := by rw [Int.pow_succ]
          omega
        case sy =>
          intro p hp
          rw [List.mem_singleton.mp hp]
          rw [← hf]
          with_unfolding_all rfl
        case fr =>
          intro z z1 z2 z3
          have z4 : z ≠ Str.ofString "label" := z2 _ (List.mem_singleton.mpr rfl)
          have z5 : z ≠ Str.ofString "digit" := by
            rintro rfl
            exact absurd z3 (by decide)
          trace_state
          simp only [if_neg z4, if_neg z5, if_neg z1, kstB, z3]
          rfl
    · intro st u h tk hP F1 N1
      clear F' N'
      rw [show (S (nb c.label)).cps.size = (nb c.label).length from by simp [S], List.take_length] at hP
      obtain ⟨p1, p2, p3⟩ := hP
      k_steps
      · refine hexc ?_ _ _ _ _ (by assumption) (by assumption) (by assumption)
        unfold readLabel
        rw [if_neg hne, p1]
        simp [*]
      · refine hret _ ?_ _ _ _ (by assumption) (by assumption)
        unfold readLabel
        rw [if_neg hne, p1]
        simp [*]
end
theorem flush_C4 {prog : Program} {w : World} {A : Around} {env : Env} {Q : Flow → Shared → Prop} {E : Value → Shared → Prop} {s : Shared} (h : wpAny (model prog w) A (execs [] env) Q E s) : wpAny (model prog w) A (execs [] env) Q E s := by
  w_top off
  first | (walk1; fail) | exact h
local macro_rules | `(tactic| k_mem) => `(tactic| first | assumption | (refine List.Mem.tail _ ?_; k_mem))
local macro_rules | `(tactic| k_all) => `(tactic| first | exact Off.head (by assumption) | exact Off.head (Off.rest (by assumption)) | (refine List.forall_mem_cons.mpr ⟨?a, ?b⟩; (case a => k_ne); (case b => k_all)))
local macro_rules | `(tactic| walk_at "call builtin:str.split") => `(tactic| (k_here; (with_reducible show wpAny _ _ (call (Value.builtin "str.split") _) _ _ _); refine split_nl (by k_asm) (by k_asm) (by first | assumption | omega) ?_; intro D' vs' h' k' hT hTl F' N' l1; (try k_lt l1)))
local macro_rules | `(tactic| walk_at "subscriptTail Name") => `(tactic| (k_here; (with_reducible show wpAny _ _ (subscriptTail _ _ (Value.ref _) (Value.int _ _)) _ _ _); k_dflt (refine' item_newsN ?N ?hm ?hx ?hk ?hi ?_; (case N => k_asm); (case hm => k_mem); (case hx => assumption); (case hk => first | rfl | omega | (simp only [List.length_append, List.length_cons, List.length_nil, List.length_singleton]; omega)); (case hi => first | decide | omega | (simp only [List.length_append, List.length_cons, List.length_nil, List.length_singleton]; omega)); k_whole)))
local macro_rules | `(tactic| walk_at "call builtin:list.append") => `(tactic| (k_here; (with_reducible show wpAny _ _ (call (Value.builtin _) [Value.ref _, _]) _ _ _); k_dflt (refine' append_L ?k1 ?k2 ?k3 ?_ ?z; (case k1 => k_asm); (case k2 => k_asm); (case k3 => k_upd); (case z => first | decide | omega); k_whole); intro h' F' N'; (try k_sweep)))
local macro_rules | `(tactic| walk_at "call builtin:list.pop") => `(tactic| (k_here; (with_reducible show wpAny _ _ (call (Value.builtin _) [Value.ref _]) _ _ _); k_dflt (refine' pop_L ?k1 ?k2 ?k3 ?z ?_; (case k1 => k_asm); (case k2 => k_asm); (case k3 => k_upd); (case z => first | decide | omega); k_whole); intro h' F' N'; (try k_sweep)))
local macro_rules | `(tactic| walk_at "call builtin:len") => `(tactic| (k_here; (with_reducible show wpAny _ _ (call (Value.builtin "len") [Value.str _ _]) _ _ _); refine len_S (by (first | assumption | omega | ((try simp only [List.length_append, List.length_take, List.length_drop, List.length_cons, List.length_nil, List.length_singleton, Mine.blanks_len]); omega) | (simp only [List.length_append, List.length_take, List.length_drop, List.length_cons, List.length_nil, List.length_singleton, Mine.blanks_len] at *; omega) | decide +kernel)) ?_; intro t' k'))
local macro_rules | `(tactic| walk_at "binaryOp Mult str int") => `(tactic| (k_here; (with_reducible show wpAny _ _ (binaryOp Operator.Mult (Value.str _ _) (Value.int _ _)) _ _ _); refine mul_S (by (first | assumption | omega | ((try simp only [List.length_append, List.length_take, List.length_drop, List.length_cons, List.length_nil, List.length_singleton, Mine.blanks_len]); omega) | (simp only [List.length_append, List.length_take, List.length_drop, List.length_cons, List.length_nil, List.length_singleton, Mine.blanks_len] at *; omega) | decide +kernel)) (by (first | assumption | omega | ((try simp only [List.length_append, List.length_take, List.length_drop, List.length_cons, List.length_nil, List.length_singleton, Mine.blanks_len]); omega) | (simp only [List.length_append, List.length_take, List.length_drop, List.length_cons, List.length_nil, List.length_singleton, Mine.blanks_len] at *; omega) | decide +kernel)) ?_; intro t' k'))
local macro_rules | `(tactic| walk_at "subscriptTail Name") => `(tactic| (k_here; (with_reducible show wpAny _ _ (subscriptTail _ _ (Value.str _ _) (Value.int _ _)) _ _ _); refine item_S (by (first | assumption | omega | ((try simp only [List.length_append, List.length_take, List.length_drop, List.length_cons, List.length_nil, List.length_singleton, Mine.blanks_len]); omega) | (simp only [List.length_append, List.length_take, List.length_drop, List.length_cons, List.length_nil, List.length_singleton, Mine.blanks_len] at *; omega) | decide +kernel)) (by (first | assumption | omega | ((try simp only [List.length_append, List.length_take, List.length_drop, List.length_cons, List.length_nil, List.length_singleton, Mine.blanks_len]); omega) | (simp only [List.length_append, List.length_take, List.length_drop, List.length_cons, List.length_nil, List.length_singleton, Mine.blanks_len] at *; omega) | decide +kernel)) (by (first | assumption | omega | ((try simp only [List.length_append, List.length_take, List.length_drop, List.length_cons, List.length_nil, List.length_singleton, Mine.blanks_len]); omega) | (simp only [List.length_append, List.length_take, List.length_drop, List.length_cons, List.length_nil, List.length_singleton, Mine.blanks_len] at *; omega) | decide +kernel)) ?_; intro t' k'))
local macro_rules | `(tactic| walk_at "subscriptTail Name Name str int") => `(tactic| (k_here; (with_reducible show wpAny _ _ (subscriptTail _ _ (Value.str _ _) (Value.int _ _)) _ _ _); refine item_S (by (first | assumption | omega | ((try simp only [List.length_append, List.length_take, List.length_drop, List.length_cons, List.length_nil, List.length_singleton, Mine.blanks_len]); omega) | (simp only [List.length_append, List.length_take, List.length_drop, List.length_cons, List.length_nil, List.length_singleton, Mine.blanks_len] at *; omega) | decide +kernel)) (by (first | assumption | omega | ((try simp only [List.length_append, List.length_take, List.length_drop, List.length_cons, List.length_nil, List.length_singleton, Mine.blanks_len]); omega) | (simp only [List.length_append, List.length_take, List.length_drop, List.length_cons, List.length_nil, List.length_singleton, Mine.blanks_len] at *; omega) | decide +kernel)) (by (first | assumption | omega | ((try simp only [List.length_append, List.length_take, List.length_drop, List.length_cons, List.length_nil, List.length_singleton, Mine.blanks_len]); omega) | (simp only [List.length_append, List.length_take, List.length_drop, List.length_cons, List.length_nil, List.length_singleton, Mine.blanks_len] at *; omega) | decide +kernel)) ?_; intro t' k'))
local macro_rules | `(tactic| walk_at "subscriptTail Name Constant str int") => `(tactic| (k_here; (with_reducible show wpAny _ _ (subscriptTail _ _ (Value.str _ _) (Value.int _ _)) _ _ _); refine item_S (by (first | assumption | omega | ((try simp only [List.length_append, List.length_take, List.length_drop, List.length_cons, List.length_nil, List.length_singleton, Mine.blanks_len]); omega) | (simp only [List.length_append, List.length_take, List.length_drop, List.length_cons, List.length_nil, List.length_singleton, Mine.blanks_len] at *; omega) | decide +kernel)) (by (first | assumption | omega | ((try simp only [List.length_append, List.length_take, List.length_drop, List.length_cons, List.length_nil, List.length_singleton, Mine.blanks_len]); omega) | (simp only [List.length_append, List.length_take, List.length_drop, List.length_cons, List.length_nil, List.length_singleton, Mine.blanks_len] at *; omega) | decide +kernel)) (by (first | assumption | omega | ((try simp only [List.length_append, List.length_take, List.length_drop, List.length_cons, List.length_nil, List.length_singleton, Mine.blanks_len]); omega) | (simp only [List.length_append, List.length_take, List.length_drop, List.length_cons, List.length_nil, List.length_singleton, Mine.blanks_len] at *; omega) | decide +kernel)) ?_; intro t' k'))
local macro_rules | `(tactic| walk_at "subscriptTail Name BinOp str int") => `(tactic| (k_here; (with_reducible show wpAny _ _ (subscriptTail _ _ (Value.str _ _) (Value.int _ _)) _ _ _); refine item_S (by (first | assumption | omega | ((try simp only [List.length_append, List.length_take, List.length_drop, List.length_cons, List.length_nil, List.length_singleton, Mine.blanks_len]); omega) | (simp only [List.length_append, List.length_take, List.length_drop, List.length_cons, List.length_nil, List.length_singleton, Mine.blanks_len] at *; omega) | decide +kernel)) (by (first | assumption | omega | ((try simp only [List.length_append, List.length_take, List.length_drop, List.length_cons, List.length_nil, List.length_singleton, Mine.blanks_len]); omega) | (simp only [List.length_append, List.length_take, List.length_drop, List.length_cons, List.length_nil, List.length_singleton, Mine.blanks_len] at *; omega) | decide +kernel)) (by (first | assumption | omega | ((try simp only [List.length_append, List.length_take, List.length_drop, List.length_cons, List.length_nil, List.length_singleton, Mine.blanks_len]); omega) | (simp only [List.length_append, List.length_take, List.length_drop, List.length_cons, List.length_nil, List.length_singleton, Mine.blanks_len] at *; omega) | decide +kernel)) ?_; intro t' k'))
section
theorem c_cards {w : World} {mean : ExcName → Option Value} {mg mb : Str → Option Value} {dp un : Nat} {gd : Option (List Code)} {cn : Str} {cs' : Scope} {a : Addr} {ccd : Value} {cl : List (Str × Addr)} {outer : List Env} {A₀ : Around} {base h₀ : Heap} {L : Addr} {m : Str → Option Value} {s : Shared} {Q E : Value → Shared → Prop} {news : List (Addr × Obj)} {x : Str} {t : Tok}
  (B : Below A₀ base outer h₀) (F : Fr h₀ L s.heap m) (X : (Mine.hd.heap_1 w.params).In h₀) (N : News h₀ L s.heap news) (T : Top VW LS mean mg mb h₀) (hk : cs'.kind = .function) (hd : dp + 2 < recursionLimit) (hu : un + 16 < cLine)
  (hx : x.length ≤ 10000)
  (hret : ∀ h' tk' l vs n own, Fr h₀ L h' m → News h₀ L h' ((l, listOf vs.toArray n) :: (own ++ news)) → Above ((l, listOf vs.toArray n) :: own) news → (∀ p ∈ own, p.1 ≠ l) → RowsAt own vs (cutLast (rowsOf x)) → Q (.ref l) { s with heap := h', toks := tk' }) :
  wpAny (model PySem.Challenge.rw_no0232_01.row.prog w) (ktrTop dp un gd cn cs' L a ccd cl outer) (call (.ref 81) [.str x t]) Q E s := by
  revert X
  k_fill
  intro X

  have hrl := rowsOf_len x
  obtain ⟨rp, r, hr⟩ := list_snoc _ hrl.1
  refine wpAny_call ?_
  k_dflt cell_enter
  k_steps
  rename TextsAre _ _ => hT
  rw [hr] at hT
  obtain ⟨us, tl, rfl, hU⟩ := TextsAre.unsnoc hT
  have hi : (us ++ [Value.str (S r) tl])[us.length]? = some (Value.str (S r) tl) := by simp
  have hul := hU.length
  rw [hr, List.length_append, List.length_singleton] at hrl
  k_steps
  · have hV : TextsAre us (cutLast (rowsOf x)) := by
      rw [hr, cutLast_app, if_pos (by simpa [lit_nil, S_beq] using ‹(S r == Str.ofString "") = true›)]
      exact hU
    have hVl : us.length ≤ 10001 := by omega
    clear hT hi
    generalize us = V at *
    refine Stop.go ?_
    generalize cutLast (rowsOf x) = R at *
    rename Fr _ _ _ _ => F'
    rename News _ _ _ _ => N'
    rename _ ∧ AllLt _ _ => l1
    rename ∀ p ∈ news, p.1 < _ => l0
    with_unfolding_all refine For_invVF F' (by rfl) (by rfl) ?_
    walk1
    refine' loop_list (σ := List Value × Nat) (fun c => [(_, listOf c.1.toArray c.2)]) (_ :: news) (fun _ => []) [] (fun i tlc c => ∃ tl, tlc = tl ++ (_ :: news) ∧ Above tl news ∧ RowsAt tl c.1 (R.take i)) ([], 0) rfl (List.Mem.head _) F' N' (fun p hp => hp) ?_ (fun _ hp => nomatch hp) ⟨[], rfl, Above.nil, RowsAt.nil⟩ ?_ ?_
    · exact Off.cons (fun p hp => Nat.ne_of_lt (by
        rcases List.mem_cons.mp hp with rfl | hp
        · exact l1.1
        · exact allLt_to l1.2 p hp)) Off.nil
    · intro i c v tlc rest u h tk hv hc hs ho hP F1 N1
      clear F' N'
      obtain ⟨rw', t', hrw, rfl⟩ := hV.got hv
      obtain ⟨tl', rfl, hA, hR⟩ := hP
      have hcl := hR.len
      have hi' : i < R.length := (List.getElem?_eq_some_iff.mp hrw).1
      rw [List.length_take] at hcl
      have hVR := hV.length
      dsimp only [List.cons_append, List.nil_append] at N1
      k_steps
      rename Fr _ _ _ _ => F3
      rename News _ _ _ _ => N3
      rename _ ∧ AllLt _ _ => l3
      refine' TurnL.next' (c.1 ++ [_], _) [(_, _)] F3 N3 (List.forall_mem_cons.mpr ⟨.tail _ (.head _), List.forall_mem_cons.mpr ⟨.head _, fun p hp => .tail _ (.tail _ hp)⟩⟩) ?po ?pa ⟨(_, _) :: tl', rfl, ?pA, ?pR⟩ (fun _ h => nomatch h) ?py
      case po => exact Off.cons (Off.head ho) (Off.cons (fun p hp => Nat.ne_of_lt (allLt_to l3.2 p hp)) Off.nil)
      case pa => exact Off.cons (fun p hp => by rw [List.mem_singleton.mp hp]; exact Nat.ne_of_gt l3.1) Off.nil
      case pA => exact Above.cons (fun q hq => allLt_to l3.2 _ (hs _ (List.mem_append_right _ (.tail _ hq)))) hA
      case pR =>
        rw [take_snoc hrw]
        exact (hR.mono fun p hp => .tail _ hp).snoc (by rw [List.length_take]; omega) (.head _)
      case py =>
        intro z z1 z2 z3
        exact (if_neg z1).trans rfl
    · intro c tlc u h tk hc ho hP F1 N1
      clear F' N'
      obtain ⟨tl', rfl, hA, hR⟩ := hP
      k_steps
      rw [hV.length, List.take_length] at hR
      rename News h₀ _ _ _ => kN
      rw [List.singleton_append, List.append_cons] at kN
      refine hret _ _ _ _ _ _ (by assumption) kN ?_ ?_ (hR.mono fun p hp => List.mem_append_left _ hp)
      · refine Above.cons (fun q hq => allLt_to l1.2 q hq) (Above.app hA (Above.cons l0 Above.nil))
      · intro p hp
        refine ho.head p ?_
        rcases List.mem_append.mp hp with hp | hp
        · exact List.mem_append_left _ hp
        · rw [List.mem_singleton.mp hp]
          exact List.mem_append_right _ (.head _)
  · have hV : TextsAre (us ++ [Value.str (S r) tl]) (cutLast (rowsOf x)) := by
      rw [hr, cutLast_app, if_neg (by simpa [lit_nil, S_beq] using ‹(S r == Str.ofString "") = false›)]
      exact hT
    have hVl : (us ++ [Value.str (S r) tl]).length ≤ 10002 := by simp only [List.length_append, List.length_cons, List.length_nil]; omega
    clear hT hi
    rename TextsAre us _ => hU'
    generalize (us ++ [Value.str (S r) tl]) = V at *
    refine Stop.go ?_
    generalize cutLast (rowsOf x) = R at *
    rename Fr _ _ _ _ => F'
    rename News _ _ _ _ => N'
    rename _ ∧ AllLt _ _ => l1
    rename ∀ p ∈ news, p.1 < _ => l0
    with_unfolding_all refine For_invVF F' (by rfl) (by rfl) ?_
    walk1
    refine' loop_list (σ := List Value × Nat) (fun c => [(_, listOf c.1.toArray c.2)]) (_ :: news) (fun _ => []) [] (fun i tlc c => ∃ tl, tlc = tl ++ (_ :: news) ∧ Above tl news ∧ RowsAt tl c.1 (R.take i)) ([], 0) rfl (List.Mem.head _) F' N' (fun p hp => hp) ?_ (fun _ hp => nomatch hp) ⟨[], rfl, Above.nil, RowsAt.nil⟩ ?_ ?_
    · exact Off.cons (fun p hp => Nat.ne_of_lt (by
        rcases List.mem_cons.mp hp with rfl | hp
        · exact l1.1
        · exact allLt_to l1.2 p hp)) Off.nil
    · intro i c v tlc rest u h tk hv hc hs ho hP F1 N1
      clear F' N'
      obtain ⟨rw', t', hrw, rfl⟩ := hV.got hv
      obtain ⟨tl', rfl, hA, hR⟩ := hP
      have hcl := hR.len
      have hi' : i < R.length := (List.getElem?_eq_some_iff.mp hrw).1
      rw [List.length_take] at hcl
      have hVR := hV.length
      dsimp only [List.cons_append, List.nil_append] at N1
      k_steps
      rename Fr _ _ _ _ => F3
      rename News _ _ _ _ => N3
      rename _ ∧ AllLt _ _ => l3
      refine' TurnL.next' (c.1 ++ [_], _) [(_, _)] F3 N3 (List.forall_mem_cons.mpr ⟨.tail _ (.head _), List.forall_mem_cons.mpr ⟨.head _, fun p hp => .tail _ (.tail _ hp)⟩⟩) ?po ?pa ⟨(_, _) :: tl', rfl, ?pA, ?pR⟩ (fun _ h => nomatch h) ?py
      case po => exact Off.cons (Off.head ho) (Off.cons (fun p hp => Nat.ne_of_lt (allLt_to l3.2 p hp)) Off.nil)
      case pa => exact Off.cons (fun p hp => by rw [List.mem_singleton.mp hp]; exact Nat.ne_of_gt l3.1) Off.nil
      case pA => exact Above.cons (fun q hq => allLt_to l3.2 _ (hs _ (List.mem_append_right _ (.tail _ hq)))) hA
      case pR =>
        rw [take_snoc hrw]
        exact (hR.mono fun p hp => .tail _ hp).snoc (by rw [List.length_take]; omega) (.head _)
      case py =>
        intro z z1 z2 z3
        exact (if_neg z1).trans rfl
    · intro c tlc u h tk hc ho hP F1 N1
      clear F' N'
      obtain ⟨tl', rfl, hA, hR⟩ := hP
      k_steps
      rw [hV.length, List.take_length] at hR
      rename News h₀ _ _ _ => kN
      rw [List.singleton_append, List.append_cons] at kN
      refine hret _ _ _ _ _ _ (by assumption) kN ?_ ?_ (hR.mono fun p hp => List.mem_append_left _ hp)
      · refine Above.cons (fun q hq => allLt_to l1.2 q hq) (Above.app hA (Above.cons l0 Above.nil))
      · intro p hp
        refine ho.head p ?_
        rcases List.mem_append.mp hp with hp | hp
        · exact List.mem_append_left _ hp
        · rw [List.mem_singleton.mp hp]
          exact List.mem_append_right _ (.head _)
end
theorem flush_P1 {prog : Program} {w : World} {A : Around} {env : Env} {Q : Flow → Shared → Prop} {E : Value → Shared → Prop} {s : Shared} (h : wpAny (model prog w) A (execs [] env) Q E s) : wpAny (model prog w) A (execs [] env) Q E s := by
  w_top off
  first | (walk1; fail) | exact h
section
local macro_rules | `(tactic| walk_at "call ref") => `(tactic| (k_here; (with_reducible show wpAny _ _ (call (Value.ref 95) [Value.str _ _, Value.int _ _]) _ _ _); k_dflt (refine' c_isc ?B ?F ?X ?N ?T ?hk ?hd ?hu ?hl ?hw ?_; (case B => k_asm); (case F => k_asm); (case X => k_asm); (case N => k_asm); (case T => k_asm); (case hk => first | exact rfl | assumption); (case hd => ktr_room); (case hu => ktr_units); (case hl => ((try simp only [List.length_append, List.length_take, List.length_drop]); first | omega | assumption | decide +kernel)); (case hw => (first | assumption | omega | decide)); k_whole); intro h' tk' F' N'; (try k_sweep)))
local macro_rules | `(tactic| walk_at "call ref") => `(tactic| (k_here; (with_reducible show wpAny _ _ (call (Value.ref 81) [Value.str _ _]) _ _ _); refine Stop.out ?_))
def seenOf (row : Tx) (w : Nat) : Tx := if (row.take w).length < 6 then row.take w ++ blanks (6 - (row.take w).length) else row.take w
def cardOf (line : Nat) (row : Tx) (w : Nat) : Card := ⟨line, (seenOf row w).take 5, ((seenOf row w).drop 5).take 1, (seenOf row w).drop 6⟩
def readCards (w : Nat) (rows : List Tx) : List Card := ((rows.zipIdx 1).filter (fun p => !isComment p.1 w)).map fun p => cardOf p.2 p.1 w
theorem readCards_snoc (w : Nat) (rows : List Tx) (r : Tx) : readCards w (rows ++ [r]) = if isComment r w then readCards w rows else readCards w rows ++ [cardOf (rows.length + 1) r w] := by
  unfold readCards
  rw [List.zipIdx_append, List.filter_append, List.map_append]
  cases h : isComment r w
  · simp [h, Nat.add_comm]
  · simp [h]
theorem readCards_len (w : Nat) (rows : List Tx) : (readCards w rows).length ≤ rows.length := by
  unfold readCards
  rw [List.length_map]
  exact Nat.le_trans (List.length_filter_le _ _) (by simp)
theorem c_rc {w : World} {mean : ExcName → Option Value} {mg mb : Str → Option Value} {dp un : Nat} {gd : Option (List Code)} {cn : Str} {cs' : Scope} {a : Addr} {ccd : Value} {cl : List (Str × Addr)} {outer : List Env} {A₀ : Around} {base h₀ : Heap} {L : Addr} {m : Str → Option Value} {s : Shared} {Q E : Value → Shared → Prop} {news : List (Addr × Obj)} {x : Str} {t : Tok} {lm : Addr} {wd most : Int}
  (B : Below A₀ base outer h₀) (F : Fr h₀ L s.heap m) (X : (Mine.hd.heap_1 w.params).In h₀) (N : News h₀ L s.heap news) (T : Top VW LS mean mg mb h₀) (hk : cs'.kind = .function) (hd : dp + 8 < recursionLimit) (hu : un + 64 < cLine)
  (hx : x.length ≤ 1000) (hlim : LimAt w news lm wd most) (hw : 9 ≤ wd ∧ wd ≤ 14)
  (hret : ∀ h' tk' l vs n own, Fr h₀ L h' m → News h₀ L h' ((l, listOf vs.toArray n) :: (own ++ news)) → Above ((l, listOf vs.toArray n) :: own) news → (∀ p ∈ own, p.1 ≠ l) → CardsAt w own vs (readCards wd.toNat (cutLast (rowsOf x))) → Q (.ref l) { s with heap := h', toks := tk' }) :
  wpAny (model PySem.Challenge.rw_no0232_01.row.prog w) (ktrTop dp un gd cn cs' L a ccd cl outer) (call (.ref 102) [.str x t, .ref lm]) Q E s := by
  revert X
  k_fill
  intro X

  have hrl := rowsOf_len x
  obtain ⟨dl, q1, q2, q3, q4, q5, q6, q7, q8, v1, v2, v3, v4, v5, v6, v7, v8, n4, hm5, hm6⟩ := hlim
  refine wpAny_call ?_
  k_dflt cell_enter
  k_steps
  refine Stop.go ?_
  rename Fr _ _ _ _ => F'
  rename News _ _ _ _ => N'
  with_unfolding_all refine For_turns F' ?_
  k_steps
  refine Stop.go ?_
  rename Fr _ _ _ _ => F'
  rename News _ _ _ _ => N'
  rename ∀ p ∈ news, p.1 < _ => l1
  rename_i lc _ _
  refine c_cards (by k_asm) (by k_asm) (by k_asm) (by k_asm) (by k_asm) rfl (by ktr_room) (by ktr_units) (by omega) ?_
  intro h' tk' ld vs n own F1 N1 hAb hOl hRw
  clear F' N'
  k_steps
  have hRl := hRw.len
  refine' loop_listT (Str.ofString "line") (σ := List Value × Nat) (fun c => [(lc, listOf c.1.toArray c.2)]) ((ld, listOf vs.toArray n) :: (own ++ news)) (fun _ => []) [Str.ofString "row", Str.ofString "seen"]
    (fun i tlc c => ∃ tl, tlc = tl ++ ((ld, listOf vs.toArray n) :: (own ++ news)) ∧ Above tl news ∧ CardsAt w tl c.1 (readCards wd.toNat ((cutLast (rowsOf x)).take i))) ([], 0) rfl (List.Mem.head _) F1 N1 ?pn ?po (fun _ hp => nomatch hp) ⟨[], rfl, Above.nil, CardsAt.nil⟩ ?pt ?pd
  case pn =>
    refine sub1 (List.Mem.tail _ (List.mem_append_right _ (List.Mem.head _))) (List.forall_mem_cons.mpr ⟨List.Mem.head _, fun p hp => List.Mem.tail _ ?_⟩)
    exact (List.mem_append.mp hp).elim (fun h => List.mem_append_left _ h) fun h => List.mem_append_right _ (.tail _ h)
  case po =>
    refine Off.one (List.forall_mem_cons.mpr ⟨Nat.ne_of_gt (hAb _ (.head _) _ (.head _)), fun p hp => ?_⟩)
    exact (List.mem_append.mp hp).elim (fun h => Nat.ne_of_gt (hAb _ (.head _) _ (.tail _ h))) fun h => Nat.ne_of_lt (l1 _ h)
  case pt =>
    intro i c v tlc rest u h tk hv hc hs ho hP F2 N2
    obtain ⟨tl, rfl, hA, hC⟩ := hP
    have hi : i < (cutLast (rowsOf x)).length := by rw [← hRl]; exact (List.getElem?_eq_some_iff.mp hv).1
    have hr := List.getElem?_eq_getElem hi
    generalize (cutLast (rowsOf x))[i] = r at hr
    obtain ⟨d, t1, u1, hv', hd'⟩ := hRw.at' i r hr
    rw [hv] at hv'
    cases hv'
    have hrl2 : r.length ≤ 1000 := Nat.le_trans (rowsOf_short r (cutLast_sub _ _ (List.mem_of_getElem? hr))) hx
    have hdr : (d, tupO [.int ((i + 1 : Nat) : Int) t1, .str (S r) u1]) ∈ rest := hs _ (List.mem_append_right _ (.tail _ (List.mem_append_left _ hd')))
    have hm5' := hs _ (List.mem_append_right _ (.tail _ (List.mem_append_right own hm5)))
    have hm6' := hs _ (List.mem_append_right _ (.tail _ (List.mem_append_right own hm6)))
    have hcl : c.1.length ≤ 2000 := by
      rw [hC.length]
      have h1 := readCards_len wd.toNat ((cutLast (rowsOf x)).take i)
      rw [List.length_take] at h1
      have h2 : (cutLast (rowsOf x)).length ≤ (rowsOf x).length := by
        unfold cutLast
        split
        · simp
        · exact Nat.le_refl _
      omega
    have hli : ((cutLast (rowsOf x)).take i).length = i := by rw [List.length_take]; omega
    dsimp only [List.cons_append, List.nil_append, envOf] at N2
    dsimp only [envOf] at F2
    k_steps
    · rename Fr _ _ _ _ => F3
      rename News _ _ _ _ => N3
      refine' TurnL.cont' c [] F3 N3 (fun p hp => hp) (by simpa using ho) (fun _ h => nomatch h) ⟨tl, rfl, hA, ?pR⟩ (fun _ h => nomatch h) ?py
      case pR =>
        rw [take_snoc hr, readCards_snoc, if_pos ‹isComment r _ = true›]
        exact hC
      case py => 
        intro z z1 z2 z3
        have z4 : z ≠ Str.ofString "row" := by rintro rfl; exact absurd z3 (by decide)
        have z5 : z ≠ Str.ofString "seen" := by rintro rfl; exact absurd z3 (by decide)
        simp only [if_neg z4, if_neg z5, if_neg z1, kstB, z3]
        rfl
    · have hseen : seenOf r wd.toNat = r.take wd.toNat ++ blanks ((6 : Int) - ((r.take wd.toNat).length : Int)).toNat := by
        unfold seenOf
        rw [if_pos (by omega)]
        congr 2
        omega
      rename Fr _ _ _ _ => F3
      rename News _ _ _ _ => N3
      rename _ ∧ AllLt _ _ => l3
      rename _ < _ => l4
      refine' TurnL.next' (c.1 ++ [_], _) [(_, _), (_, _)] F3 N3 (sub1 (.tail _ (.tail _ (.head _))) (List.forall_mem_cons.mpr ⟨.head _, List.forall_mem_cons.mpr ⟨.tail _ (.head _), fun p hp => .tail _ (.tail _ (.tail _ hp))⟩⟩)) ?po ?pa ⟨(_, _) :: (_, _) :: tl, rfl, ?pA, ?pR⟩ (fun _ h => nomatch h) ?py
      case po => exact Off.cons (Off.head ho) (Off.two (fun p hp => Nat.ne_of_lt (Nat.lt_trans (allLt_to l3.2 p hp) l4)) (fun p hp => Nat.ne_of_lt (allLt_to l3.2 p hp)))
      case pa => exact Off.one (List.forall_mem_cons.mpr ⟨Nat.ne_of_gt (Nat.lt_trans l3.1 l4), List.forall_mem_cons.mpr ⟨Nat.ne_of_gt l3.1, fun _ h => nomatch h⟩⟩)
      case pA =>
        have hnr : ∀ q ∈ news, q ∈ rest := fun q hq => hs _ (List.mem_append_right _ (.tail _ (List.mem_append_right _ hq)))
        exact Above.cons (fun q hq => Nat.lt_trans (allLt_to l3.2 _ (hnr q hq)) l4) (Above.cons (fun q hq => allLt_to l3.2 _ (hnr q hq)) hA)
      case pR =>
        rw [take_snoc hr, readCards_snoc, if_neg (by simp [‹isComment r _ = false›]), hli]
        refine' CardsAt.snoc (hC.mono fun p hp => .tail _ (.tail _ hp)) (CardAt.intro (.head _) ?cm)
        case cm =>
          unfold cardOf
          rw [hseen]
          exact .tail _ (.head _)
      case py => 
        intro z z1 z2 z3
        have z4 : z ≠ Str.ofString "row" := by rintro rfl; exact absurd z3 (by decide)
        have z5 : z ≠ Str.ofString "seen" := by rintro rfl; exact absurd z3 (by decide)
        simp only [if_neg z4, if_neg z5, if_neg z1, kstB, z3]
        rfl
    · have hseen : seenOf r wd.toNat = r.take wd.toNat := by
        unfold seenOf
        rw [if_neg (by omega)]
      rename Fr _ _ _ _ => F3
      rename News _ _ _ _ => N3
      rename _ ∧ AllLt _ _ => l3
      rename _ < _ => l4
      refine' TurnL.next' (c.1 ++ [_], _) [(_, _), (_, _)] F3 N3 (sub1 (.tail _ (.tail _ (.head _))) (List.forall_mem_cons.mpr ⟨.head _, List.forall_mem_cons.mpr ⟨.tail _ (.head _), fun p hp => .tail _ (.tail _ (.tail _ hp))⟩⟩)) ?po ?pa ⟨(_, _) :: (_, _) :: tl, rfl, ?pA, ?pR⟩ (fun _ h => nomatch h) ?py
      case po => exact Off.cons (Off.head ho) (Off.two (fun p hp => Nat.ne_of_lt (Nat.lt_trans (allLt_to l3.2 p hp) l4)) (fun p hp => Nat.ne_of_lt (allLt_to l3.2 p hp)))
      case pa => exact Off.one (List.forall_mem_cons.mpr ⟨Nat.ne_of_gt (Nat.lt_trans l3.1 l4), List.forall_mem_cons.mpr ⟨Nat.ne_of_gt l3.1, fun _ h => nomatch h⟩⟩)
      case pA =>
        have hnr : ∀ q ∈ news, q ∈ rest := fun q hq => hs _ (List.mem_append_right _ (.tail _ (List.mem_append_right _ hq)))
        exact Above.cons (fun q hq => Nat.lt_trans (allLt_to l3.2 _ (hnr q hq)) l4) (Above.cons (fun q hq => allLt_to l3.2 _ (hnr q hq)) hA)
      case pR =>
        rw [take_snoc hr, readCards_snoc, if_neg (by simp [‹isComment r _ = false›]), hli]
        refine' CardsAt.snoc (hC.mono fun p hp => .tail _ (.tail _ hp)) (CardAt.intro (.head _) ?cm)
        case cm =>
          unfold cardOf
          rw [hseen]
          exact .tail _ (.head _)
      case py => 
        intro z z1 z2 z3
        have z4 : z ≠ Str.ofString "row" := by rintro rfl; exact absurd z3 (by decide)
        have z5 : z ≠ Str.ofString "seen" := by rintro rfl; exact absurd z3 (by decide)
        simp only [if_neg z4, if_neg z5, if_neg z1, kstB, z3]
        rfl
  case pd =>
    intro c tlc u h tk hc ho hP F2 N2
    obtain ⟨tl, rfl, hA, hC⟩ := hP
    k_steps
    rename News h₀ _ _ _ => kN
    rw [hRl, List.take_length] at hC
    refine hret _ _ _ c.1 c.2 (tl ++ ((ld, listOf vs.toArray n) :: own)) (by assumption) (by simpa using kN) ?_ ?_ (hC.mono fun p hp => List.mem_append_left _ hp)
    · exact Above.cons l1 (Above.app hA (fun q hq p hp => hAb q (.tail _ hq) p hp))
    · intro p hp
      refine ho.head p ?_
      rcases List.mem_append.mp hp with hp | hp
      · exact List.mem_append_left _ hp
      · refine List.mem_append_right _ ?_
        rcases List.mem_cons.mp hp with rfl | hp
        · exact .head _
        · exact .tail _ (List.mem_append_left _ hp)
end
theorem flush_P2 {prog : Program} {w : World} {A : Around} {env : Env} {Q : Flow → Shared → Prop} {E : Value → Shared → Prop} {s : Shared} (h : wpAny (model prog w) A (execs [] env) Q E s) : wpAny (model prog w) A (execs [] env) Q E s := by
  w_top off
  first | (walk1; fail) | exact h
section
def padTo (l : Tx) (w : Int) : Tx := if (l.length : Int) < w then l ++ blanks (w - (l.length : Int)).toNat else l
theorem padTo_len (l : Tx) (w : Int) : ((padTo l w).length : Int) = max (l.length : Int) w ∨ ((padTo l w).length : Int) = l.length := by
  unfold padTo
  split
  · left; rw [List.length_append, blanks_len]; omega
  · right; rfl
theorem c_pad {w : World} {mean : ExcName → Option Value} {mg mb : Str → Option Value} {dp un : Nat} {gd : Option (List Code)} {cn : Str} {cs' : Scope} {a : Addr} {ccd : Value} {cl : List (Str × Addr)} {outer : List Env} {A₀ : Around} {base h₀ : Heap} {L : Addr} {m : Str → Option Value} {s : Shared} {Q E : Value → Shared → Prop} {news : List (Addr × Obj)} {l : Tx} {wd : Int} {t t2 : Tok}
  (B : Below A₀ base outer h₀) (F : Fr h₀ L s.heap m) (X : (Mine.hd.heap_1 w.params).In h₀) (N : News h₀ L s.heap news) (T : Top VW LS mean mg mb h₀) (hk : cs'.kind = .function) (hd : dp + 1 < recursionLimit) (hu : un + 8 < cLine)
  (hl : l.length ≤ 1000) (hw : 0 ≤ wd ∧ wd ≤ 100)
  (hret : ∀ t' h' tk', Fr h₀ L h' m → News h₀ L h' news → Q (.str (S (padTo l wd)) t') { s with heap := h', toks := tk' }) :
  wpAny (model PySem.Challenge.rw_no0232_01.row.prog w) (ktrTop dp un gd cn cs' L a ccd cl outer) (call (.ref 123) [.str (S l) t, .int wd t2]) Q E s := by
  revert X
  k_fill
  intro X

  refine wpAny_call ?_
  k_dflt cell_enter
  k_steps
  all_goals (refine q_str (congrArg S ?_) (hret _ _ _ (by assumption) (by assumption)))
  · unfold padTo; rw [if_pos (by assumption)]
  · unfold padTo; rw [if_neg (by omega)]
def jpart (w : Int) (bs : List Tx) (i : Nat) : Tx := ((List.range i).map fun k => if k + 1 < bs.length then padTo (bs.getD k []) w else bs.getD k []).flatten
theorem jpart_succ (w : Int) (bs : List Tx) (i : Nat) : jpart w bs (i + 1) = jpart w bs i ++ (if i + 1 < bs.length then padTo (bs.getD i []) w else bs.getD i []) := by
  unfold jpart
  rw [List.range_succ, List.map_append, List.flatten_append]
  simp
def joinText (w : Int) (cs : List Card) : Tx := jpart w (cs.map (·.body)) cs.length
/-- what joined yields: the tuple's label and text, or a refusal -/
noncomputable def joinedR (w : Int) (cs : List Card) : Option (Int × Tx) := match cs with
  | [] => none
  | c0 :: _ => if nb (joinText w cs) = [] then none else (readLabel c0.label).map fun v => (v, joinText w cs)
local macro_rules | `(tactic| walk_at "call ref") => `(tactic| (k_here; (with_reducible show wpAny _ _ (call (Value.ref 123) [Value.str _ _, Value.int _ _]) _ _ _); k_dflt (refine' c_pad ?B ?F ?X ?N ?T ?hk ?hd ?hu ?hl ?hw ?_; (case B => k_asm); (case F => k_asm); (case X => k_asm); (case N => k_asm); (case T => k_asm); (case hk => first | exact rfl | assumption); (case hd => ktr_room); (case hu => ktr_units); (case hl => (first | assumption | omega | ((try simp only [List.length_append, List.length_take, List.length_drop, List.length_cons, List.length_nil, List.length_singleton, Mine.blanks_len]); omega) | (simp only [List.length_append, List.length_take, List.length_drop, List.length_cons, List.length_nil, List.length_singleton, Mine.blanks_len] at *; omega) | decide +kernel)); (case hw => first | assumption | omega); k_whole); intro t' h' tk' F' N'; (try k_sweep)))
local macro_rules | `(tactic| walk_at "call ref") => `(tactic| (k_here; (with_reducible show wpAny _ _ (call (Value.ref 116) [Value.ref _]) _ _ _); k_dflt (refine' c_lab ?B ?F ?X ?N ?T ?hk ?hd ?hu ?hc ?hbc ?_ ?_; (case B => k_asm); (case F => k_asm); (case X => k_asm); (case N => k_asm); (case T => k_asm); (case hk => first | exact rfl | assumption); (case hd => ktr_room); (case hu => ktr_units); (case hc => assumption); (case hbc => assumption); k_whole); intro hb' e' h' tk' g2' R' U' F'; k_dflt (refine leave_nextSE (by k_asm) F' R' U' ?_); intro h2' R2' U2'; rotate_left; intro v' hv' t' h' tk' F' N'; (try k_sweep); rotate_right))
theorem c_join {w : World} {mean : ExcName → Option Value} {mg mb : Str → Option Value} {dp un : Nat} {gd : Option (List Code)} {cn : Str} {cs' : Scope} {a : Addr} {ccd : Value} {cl : List (Str × Addr)} {outer : List Env} {A₀ : Around} {base h₀ : Heap} {L : Addr} {m : Str → Option Value} {s : Shared} {Q E : Value → Shared → Prop} {news : List (Addr × Obj)} {l : Addr} {c0 : Card} {cs : List Card} {vs : List Value} {n2 : Nat} {wd : Int} {t2 : Tok}
  (B : Below A₀ base outer h₀) (F : Fr h₀ L s.heap m) (X : (Mine.hd.heap_1 w.params).In h₀) (N : News h₀ L s.heap news) (T : Top VW LS mean mg mb h₀) (hk : cs'.kind = .function) (hd : dp + 10 < recursionLimit) (hu : un + 80 < cLine)
  (hcs : CardsAt w news vs (c0 :: cs)) (hl : (l, listOf vs.toArray n2) ∈ news) (hlen : (c0 :: cs).length ≤ 1000) (hbs : ∀ d ∈ (c0 :: cs), bodyOk d) (hw : 0 ≤ wd ∧ wd ≤ 100) (hexc : joinedR wd (c0 :: cs) = none → ∀ e h' tk' g₂, RaisedSE w base (envX cn cs' L a ccd cl :: outer) e c0.line news h' → g₂.UpToSlots h' → Fr h₀ L g₂ m → E (.ref e) { s with heap := h', toks := tk' })
  (hret : ∀ v tx, joinedR wd (c0 :: cs) = some (v, tx) → ∀ h' tk' d t1 t2 t3, Fr h₀ L h' m → News h₀ L h' ((d, tupO [.int c0.line t1, .int v t2, .str (S tx) t3]) :: news) → (∀ p ∈ news, p.1 < d) → Q (.ref d) { s with heap := h', toks := tk' }) :
  wpAny (model PySem.Challenge.rw_no0232_01.row.prog w) (ktrTop dp un gd cn cs' L a ccd cl outer) (call (.ref 130) [.ref l, .int wd t2]) Q E s := by
  revert X
  k_fill
  intro X

  have hcl := hcs.length
  obtain ⟨x0, hx0, hc0⟩ : ∃ x0, vs[0]? = some (.ref x0) ∧ CardAt w news x0 c0 := by
    cases hcs with
    | cons h _ => exact ⟨_, rfl, h⟩
  have hb0 := hbs c0 (.head _)
  have hc0' := hc0
  obtain ⟨dx, k1, k2, k3, k4, t1, t2, t3, t4, n, hm1, hm2⟩ := hc0'
  refine wpAny_call ?_
  k_dflt cell_enter
  k_steps
  refine Stop.go ?_
  rename Fr _ _ _ _ => F'
  rename News _ _ _ _ => N'
  with_unfolding_all refine For_invVF F' (by rfl) (by rfl) ?_
  k_steps
  refine Stop.go ?_
  rename Fr _ _ _ _ => F'
  rename News _ _ _ _ => N'
  rename IsRange _ _ _ _ _ _ _ _ => hR
  refine' loop_range (σ := Tx × Tok) (n := vs.length) (fun _ => []) news (fun c => [(Str.ofString "text", .str (S c.1) c.2)]) [] (fun i tlc c => c.1 = jpart wd ((c0 :: cs).map (·.body)) i ∧ c.1.length ≤ 100 * i) ([], _) rfl hR (range_small0 (by omega)) (range_size0 _) F' N' (fun p hp => hp) Off.nil ?pk ⟨rfl, Nat.zero_le _⟩ ?pt ?pd
  case pk =>
    intro p hp
    rw [List.mem_singleton.mp hp]
    rw [← lit_nil]
    with_unfolding_all rfl
  case pt =>
    intro i c t tlc rest u h tk hi hc hs ho hP F2 N2
    obtain ⟨hP1, hP2⟩ := hP
    have hn := fun p hp => hs p (hc p hp)
    obtain ⟨xi, ci, hv, hci, hCi⟩ := hcs.got (List.getElem?_eq_getElem hi)
    have hv' : vs[i]? = some (.ref xi) := by rw [List.getElem?_eq_getElem hi, hv]
    obtain ⟨hb1, hb2, hb3⟩ := hbs ci (List.mem_of_getElem? hci)
    obtain ⟨dxi, j1, j2, j3, j4, s1, s2, s3, s4, ni, hmi1, hmi2⟩ := hCi
    have hmi1' := hn _ hmi1
    have hmi2' := hn _ hmi2
    have hl' := hn _ hl
    have hgd : ((c0 :: cs).map (·.body)).getD i [] = ci.body := by rw [List.getD_eq_getElem?_getD, List.getElem?_map, hci]; rfl
    have hml : ((c0 :: cs).map (·.body)).length = vs.length := by rw [List.length_map, hcl]
    have hjs := jpart_succ wd ((c0 :: cs).map (·.body)) i
    rw [hgd, hml, ← hP1] at hjs
    have hpl := padTo_len ci.body wd
    dsimp only [List.cons_append, List.nil_append, envOf] at N2
    dsimp only [envOf] at F2
    k_steps
    · rename Fr _ _ _ _ => F3
      rename News _ _ _ _ => N3
      rw [if_pos (by omega)] at hjs
      refine' TurnL.next' (c.1 ++ (padTo ci.body wd), _) [] F3 N3 (fun p hp => hp) Off.nil Off.nil ⟨hjs.symm, ?pl⟩ ?pk ?py
      case pl =>
        show (c.1 ++ (padTo ci.body wd)).length ≤ _
        rw [List.length_append]
        omega
      case pk =>
        intro p hp
        rw [List.mem_singleton.mp hp]
        with_unfolding_all rfl
      case py =>
        intro z z1 z2 z3
        have z4 : z ≠ Str.ofString "text" := z2 _ (List.mem_singleton.mpr rfl)
        simp only [if_neg z4, if_neg z1, kstB, z3]
        rfl
    · rename Fr _ _ _ _ => F3
      rename News _ _ _ _ => N3
      rw [if_neg (by omega)] at hjs
      refine' TurnL.next' (c.1 ++ (ci.body), _) [] F3 N3 (fun p hp => hp) Off.nil Off.nil ⟨hjs.symm, ?pl⟩ ?pk ?py
      case pl =>
        show (c.1 ++ (ci.body)).length ≤ _
        rw [List.length_append]
        omega
      case pk =>
        intro p hp
        rw [List.mem_singleton.mp hp]
        with_unfolding_all rfl
      case py =>
        intro z z1 z2 z3
        have z4 : z ≠ Str.ofString "text" := z2 _ (List.mem_singleton.mpr rfl)
        simp only [if_neg z4, if_neg z1, kstB, z3]
        rfl
  case pd =>
    intro c tlc u h tk hc ho hP F2 N2
    obtain ⟨hP1, hP2⟩ := hP
    replace N2 : News _ _ h news := fun p hp => N2 p (hc p hp)
    have hJT : c.1 = joinText wd (c0 :: cs) := by
      rw [hP1, hcl]
      rfl
    dsimp only [envOf] at N2 F2
    k_steps
    · refine hexc ?_ _ _ _ _ (by assumption) (by assumption) (by assumption)
      have hnb : nb c.1 = [] := by simpa [lit_nil, S_beq] using ‹(S (nb c.1) == Str.ofString "") = true›
      show (if nb (joinText wd (c0 :: cs)) = [] then none else _) = none
      rw [← hJT, if_pos hnb]
    · have hnb : nb c.1 ≠ [] := by simpa [lit_nil, S_beq] using ‹(S (nb c.1) == Str.ofString "") = false›
      rename readLabel c0.label = none => hv
      refine hexc ?_ _ _ _ _ (by assumption) (by assumption) (by assumption)
      show (if nb (joinText wd (c0 :: cs)) = [] then none else (readLabel c0.label).map fun v => (v, joinText wd (c0 :: cs))) = _
      rw [if_neg (by rw [← hJT]; exact hnb), hv]
      rfl
    · have hnb : nb c.1 ≠ [] := by simpa [lit_nil, S_beq] using ‹(S (nb c.1) == Str.ofString "") = false›
      rename readLabel c0.label = some _ => hv
      refine hret _ c.1 ?_ _ _ _ _ _ _ (by assumption) (by assumption) (by assumption)
      show (if nb (joinText wd (c0 :: cs)) = [] then none else (readLabel c0.label).map fun v => (v, joinText wd (c0 :: cs))) = _
      rw [← hJT, if_neg hnb, hv]
      rfl
end
theorem flush_P3 {prog : Program} {w : World} {A : Around} {env : Env} {Q : Flow → Shared → Prop} {E : Value → Shared → Prop} {s : Shared} (h : wpAny (model prog w) A (execs [] env) Q E s) : wpAny (model prog w) A (execs [] env) Q E s := by
  w_top off
  first | (walk1; fail) | exact h
section
theorem sub2b {h₀ h : Heap} {L : Addr} {a b c : Addr × Obj} {r : List (Addr × Obj)} (N : News h₀ L h (a :: b :: c :: r)) : News h₀ L h (c :: (a :: r)) := fun p hp => N p (by
  rcases List.mem_cons.mp hp with rfl | hp
  · exact .tail _ (.tail _ (.head _))
  · rcases List.mem_cons.mp hp with rfl | hp
    · exact .head _
    · exact .tail _ (.tail _ (.tail _ hp)))
structure Stm where
  line : Int
  lab : Int
  tx : Tx
inductive StmsAt (own : List (Addr × Obj)) : List Value → List Stm → Prop
  | nil : StmsAt own [] []
  | cons {d : Addr} {t1 t2 t3 : Tok} {vs : List Value} {q : Stm} {qs : List Stm} : (d, tupO [.int q.line t1, .int q.lab t2, .str (S q.tx) t3]) ∈ own → StmsAt own vs qs → StmsAt own (.ref d :: vs) (q :: qs)
theorem StmsAt.mono {own own' : List (Addr × Obj)} {vs : List Value} {qs : List Stm} (h : StmsAt own vs qs) (hs : ∀ p ∈ own, p ∈ own') : StmsAt own' vs qs := by
  induction h with
  | nil => exact .nil
  | cons h _ ih => exact .cons (hs _ h) ih
theorem StmsAt.length {own : List (Addr × Obj)} {vs : List Value} {qs : List Stm} (h : StmsAt own vs qs) : vs.length = qs.length := by
  induction h with
  | nil => rfl
  | cons _ _ ih => rw [List.length_cons, List.length_cons, ih]
theorem StmsAt.snoc {own : List (Addr × Obj)} {vs : List Value} {qs : List Stm} {d : Addr} {t1 t2 t3 : Tok} {q : Stm} (h : StmsAt own vs qs) (k : (d, tupO [.int q.line t1, .int q.lab t2, .str (S q.tx) t3]) ∈ own) : StmsAt own (vs ++ [.ref d]) (qs ++ [q]) := by
  induction h with
  | nil => exact .cons k .nil
  | cons h _ ih => exact .cons h ih
/-- the held rows are put out -/
noncomputable def flush (w : Int) (out : List Stm) (rows : List Card) : Except Int (List Stm) := match rows with
  | [] => .ok out
  | c0 :: r => match joinedR w (c0 :: r) with
    | none => .error c0.line
    | some (v, tx) => .ok (out ++ [⟨c0.line, v, tx⟩])
noncomputable def stStep (w most : Int) (out : List Stm) (rows : List Card) (c : Card) : Except Int (List Stm × List Card) :=
  if isCont c then (if chkBad c rows most then .error c.line else .ok (out, rows ++ [c]))
  else match flush w out rows with
    | .error e => .error e
    | .ok out' => match readLabel c.label with
      | none => .error c.line
      | some _ => .ok (out', [c])
noncomputable def stGo (w most : Int) : List Card → List Stm → List Card → Except Int (List Stm × List Card)
  | [], out, rows => .ok (out, rows)
  | c :: cs, out, rows => match stStep w most out rows c with
    | .error e => .error e
    | .ok (out', rows') => stGo w most cs out' rows'
noncomputable def stmtsR (w most : Int) (cards : List Card) : Except Int (List Stm) := match stGo w most cards [] [] with
  | .error e => .error e
  | .ok (out, rows) => flush w out rows
theorem stGo_app (w most : Int) (a b : List Card) : ∀ out rows, stGo w most (a ++ b) out rows = match stGo w most a out rows with
    | .error e => .error e
    | .ok (out', rows') => stGo w most b out' rows' := by
  induction a with
  | nil => intro out rows; rfl
  | cons c r ih =>
    intro out rows
    simp only [List.cons_append, stGo]
    split
    · rfl
    · exact ih _ _
theorem stGo_snoc {w most : Int} {cards : List Card} {i : Nat} {c : Card} {out : List Stm} {rows : List Card} (hc : cards[i]? = some c) (h : stGo w most (cards.take i) [] [] = .ok (out, rows)) :
    stGo w most (cards.take (i + 1)) [] [] = stStep w most out rows c := by
  rw [take_snoc hc, stGo_app, h]
  show stGo w most [c] out rows = _
  unfold stGo
  cases stStep w most out rows c with
  | error e => rfl
  | ok p => rfl
theorem stGo_bad {w most : Int} {cards : List Card} {i : Nat} {c : Card} {out : List Stm} {rows : List Card} {e : Int} (hc : cards[i]? = some c) (h : stGo w most (cards.take i) [] [] = .ok (out, rows))
    (he : stStep w most out rows c = .error e) : stmtsR w most cards = .error e := by
  unfold stmtsR
  rw [← List.take_append_drop (i + 1) cards, stGo_app, stGo_snoc hc h, he]
/-- the loop's state -/
structure SS where
  ov : List Value
  on : Nat
  lr : Addr
  rv : List Value
  rn : Nat
  st : List Stm
  rw : List Card
local macro_rules | `(tactic| walk_at "call ref") => `(tactic| (k_here; (with_reducible show wpAny _ _ (call (Value.ref 109) [Value.ref _]) _ _ _); k_dflt (refine' c_cont ?B ?F ?X ?N ?T ?hk ?hd ?hu ?hc ?_; (case B => k_asm); (case F => k_asm); (case X => k_asm); (case N => k_asm); (case T => k_asm); (case hk => first | exact rfl | assumption); (case hd => ktr_room); (case hu => ktr_units); (case hc => exact CardAt.mono (by assumption) (by (intro p hp; repeat (first | exact hp | refine List.Mem.tail _ ?_)))); k_whole); intro h' tk' F' N'; (try k_sweep)))
local macro_rules | `(tactic| walk_at "call ref") => `(tactic| (k_here; (with_reducible show wpAny _ _ (call (Value.ref 116) [Value.ref _]) _ _ _); k_dflt (refine' c_lab ?B ?F ?X ?N ?T ?hk ?hd ?hu ?hc ?hbc ?_ ?_; (case B => k_asm); (case F => k_asm); (case X => k_asm); (case N => k_asm); (case T => k_asm); (case hk => first | exact rfl | assumption); (case hd => ktr_room); (case hu => ktr_units); (case hc => exact CardAt.mono (by assumption) (by (intro p hp; repeat (first | exact hp | refine List.Mem.tail _ ?_)))); (case hbc => assumption); k_whole); intro hb' e' h' tk' g2' R' U' F'; k_dflt (refine leave_nextSE (by k_asm) F' R' U' ?_); intro h2' R2' U2'; rotate_left; intro v' hv' t' h' tk' F' N'; (try k_sweep); rotate_right))
local macro_rules | `(tactic| walk_at "call ref") => `(tactic| (k_here; (with_reducible show wpAny _ _ (call (Value.ref 137) [Value.ref _, Value.ref _, Value.ref _]) _ _ _); k_dflt (refine' c_chk ?B ?F ?X ?N ?T ?hk ?hd ?hu ?hc ?hcs ?hl ?hlim ?hlen ?hbc ?hbs ?_ ?_; (case B => k_asm); (case F => k_asm); (case X => k_asm); (case N => k_asm); (case T => k_asm); (case hk => first | exact rfl | assumption); (case hd => ktr_room); (case hu => ktr_units); (case hc => exact CardAt.mono (by assumption) (by (intro p hp; repeat (first | exact hp | refine List.Mem.tail _ ?_)))); (case hl => k_mem); (case hcs => exact CardsAt.mono (by assumption) (by (intro p hp; repeat (first | exact hp | refine List.Mem.tail _ ?_)))); (case hlim => exact LimAt.mono (by assumption) (by (intro p hp; repeat (first | exact hp | refine List.Mem.tail _ ?_)))); (case hlen => (first | assumption | omega | ((try simp only [List.length_append, List.length_take, List.length_drop, List.length_cons, List.length_nil, List.length_singleton, Mine.blanks_len]); omega) | (simp only [List.length_append, List.length_take, List.length_drop, List.length_cons, List.length_nil, List.length_singleton, Mine.blanks_len] at *; omega) | decide +kernel)); (case hbc => assumption); (case hbs => assumption); k_whole); intro hb' e' h' tk' g2' R' U' F'; k_dflt (refine leave_nextSE (by k_asm) F' R' U' ?_); intro h2' R2' U2'; rotate_left; intro hv' h' tk' F' N'; (try k_sweep); rotate_right))
local macro_rules | `(tactic| walk_at "call ref") => `(tactic| (k_here; (with_reducible show wpAny _ _ (call (Value.ref 130) [Value.ref _, Value.int _ _]) _ _ _); k_dflt (refine' c_join ?B ?F ?X ?N ?T ?hk ?hd ?hu ?hcs ?hl ?hlen ?hbs ?hw ?_ ?_; (case B => k_asm); (case F => k_asm); (case X => k_asm); (case N => k_asm); (case T => k_asm); (case hk => first | exact rfl | assumption); (case hd => ktr_room); (case hu => ktr_units); (case hl => k_mem); (case hcs => exact CardsAt.mono (by assumption) (by (intro p hp; repeat (first | exact hp | refine List.Mem.tail _ ?_)))); (case hlen => (first | assumption | omega | ((try simp only [List.length_append, List.length_take, List.length_drop, List.length_cons, List.length_nil, List.length_singleton, Mine.blanks_len]); omega) | (simp only [List.length_append, List.length_take, List.length_drop, List.length_cons, List.length_nil, List.length_singleton, Mine.blanks_len] at *; omega) | decide +kernel)); (case hbs => assumption); (case hw => omega); k_whole); intro hb' e' h' tk' g2' R' U' F'; k_dflt (refine leave_nextSE (by k_asm) F' R' U' ?_); intro h2' R2' U2'; rotate_left; intro v' tx' hv' h' tk' d' t1' t2' t3' F' N' l1; (try k_lt l1); (try k_sweep); rotate_right))
theorem c_st {w : World} {mean : ExcName → Option Value} {mg mb : Str → Option Value} {dp un : Nat} {gd : Option (List Code)} {cn : Str} {cs' : Scope} {a : Addr} {ccd : Value} {cl : List (Str × Addr)} {outer : List Env} {A₀ : Around} {base h₀ : Heap} {L : Addr} {m : Str → Option Value} {s : Shared} {Q E : Value → Shared → Prop} {news : List (Addr × Obj)} {l lm : Addr} {cards : List Card} {vs : List Value} {n2 : Nat} {wd most : Int}
  (B : Below A₀ base outer h₀) (F : Fr h₀ L s.heap m) (X : (Mine.hd.heap_1 w.params).In h₀) (N : News h₀ L s.heap news) (T : Top VW LS mean mg mb h₀) (hk : cs'.kind = .function) (hd : dp + 14 < recursionLimit) (hu : un + 120 < cLine)
  (hcs : CardsAt w news vs cards) (hl : (l, listOf vs.toArray n2) ∈ news) (hlim : LimAt w news lm wd most) (hlen : cards.length ≤ 1000) (hbs : ∀ d ∈ cards, bodyOk d) (hw : 9 ≤ wd ∧ wd ≤ 14) (hexc : ∀ i, stmtsR (wd - 6) most cards = .error i → ∀ e h' tk' g₂, RaisedSE w base (envX cn cs' L a ccd cl :: outer) e i news h' → g₂.UpToSlots h' → Fr h₀ L g₂ m → E (.ref e) { s with heap := h', toks := tk' })
  (hret : ∀ qs, stmtsR (wd - 6) most cards = .ok qs → ∀ h' tk' lo os n own, Fr h₀ L h' m → News h₀ L h' ((lo, listOf os.toArray n) :: (own ++ news)) → Above ((lo, listOf os.toArray n) :: own) news → (∀ p ∈ own, p.1 ≠ lo) → StmsAt own os qs → Q (.ref lo) { s with heap := h', toks := tk' }) :
  wpAny (model PySem.Challenge.rw_no0232_01.row.prog w) (ktrTop dp un gd cn cs' L a ccd cl outer) (call (.ref 144) [.ref l, .ref lm]) Q E s := by
  revert X
  k_fill
  intro X

  have hcl := hcs.length
  have hlim' := hlim
  obtain ⟨dl, q1, q2, q3, q4, q5, q6, q7, q8, v1, v2, v3, v4, v5, v6, v7, v8, n4, hm5, hm6⟩ := hlim'
  refine wpAny_call ?_
  k_dflt cell_enter
  k_steps
  refine Stop.go ?_
  rename Fr _ _ _ _ => F'
  rename News _ _ _ _ => N'
  with_unfolding_all refine For_invVF F' (by rfl) (by rfl) ?_
  k_steps
  refine Stop.go ?_
  rename _ ∧ AllLt _ _ => l2
  rename ∀ p ∈ news, p.1 < _ => l1
  rename_i lo _ _ _ lr0 _ _ _
  refine' loop_list (σ := SS) (fun c => [(c.lr, listOf c.rv.toArray c.rn), (lo, listOf c.ov.toArray c.on)]) news (fun c => [(Str.ofString "rows", .ref c.lr)]) []
    (fun i tlc c => ∃ tl, tlc = tl ++ news ∧ Above tl news ∧ StmsAt tl c.ov c.st ∧ CardsAt w news c.rv c.rw ∧ c.rw.length ≤ i ∧ c.ov.length ≤ i ∧ lo < c.lr ∧ (∀ p ∈ news, p.1 < c.lr) ∧ (∀ d ∈ c.rw, bodyOk d) ∧ stGo (wd - 6) most (cards.take i) [] [] = .ok (c.st, c.rw))
    ⟨[], 0, lr0, [], 0, [], []⟩ rfl hl F' N' (fun p hp => hp) (Off.two (fun p hp => Nat.ne_of_lt (allLt_to l2.2 p hp)) (fun p hp => Nat.ne_of_lt (l1 p hp))) ?pk ⟨[], rfl, Above.nil, .nil, .nil, Nat.le_refl _, Nat.le_refl _, l2.1, allLt_to l2.2, (fun _ h => nomatch h), rfl⟩ ?pt ?pd
  case pk =>
    intro p hp
    rw [List.mem_singleton.mp hp]
    with_unfolding_all rfl
  case pt =>
    intro i c v tlc rest u h tk hv hc hs ho hP F2 N2
    obtain ⟨tl, rfl, hA, hS, hR, hr1, hr2, hlo, hlr, hbd, hgo⟩ := hP
    obtain ⟨xi, ci, rfl, hci, hCi⟩ := hcs.got hv
    have hbi := hbs ci (List.mem_of_getElem? hci)
    have hnr : ∀ p ∈ news, p ∈ rest := fun p hp => hs p (List.mem_append_right _ hp)
    have hCi' := hCi.mono hnr
    have hR' := hR.mono hnr
    have hlim' := hlim.mono hnr
    have hi : i < cards.length := (List.getElem?_eq_some_iff.mp hci).1
    have hgs := stGo_snoc hci hgo
    have hgb := fun e he => stGo_bad (e := e) hci hgo he
    have hRl := hR.length
    have hlo := ltN hlo
    have hRk : Kept (CardsAt w news c.rv c.rw) := ⟨hR⟩
    have hCk : Kept (CardAt w news xi ci) := ⟨hCi⟩
    clear hCi hlim hcs hR
    dsimp only [List.cons_append, List.nil_append, envOf] at N2
    dsimp only [envOf] at F2
    cases hrw : c.rw with
    | nil =>
      have hrl0 : c.rv.length = 0 := by rw [hRl, hrw]; rfl
      rw [hrw] at hR' hgb hgs hbd hRk hr1
      simp only [List.length_cons, List.length_nil] at hr1
      k_steps
      · rename isCont ci = _ => hk1
        rename chkBad ci _ most = _ => hk2
        refine hexc _ (hgb _ ?_) _ _ _ _ (RaisedSE.sub (by assumption) fun q hq => .tail _ (.tail _ (hnr q hq))) (by assumption) (by assumption)
        unfold stStep; rw [if_pos hk1, if_pos hk2]
      · rename isCont ci = _ => hk1
        rename chkBad ci _ most = _ => hk2
        rename Fr _ _ _ _ => F3
        rename News _ _ _ _ => N3
        refine' TurnL.next' ⟨c.ov, c.on, c.lr, c.rv ++ [_], c.rn + 1, c.st, ([] : List Card) ++ [ci]⟩ [] F3 N3 (fun p hp => hp) (Off.two (Off.head ho) (Off.head (Off.rest ho))) (fun _ h => nomatch h) ⟨tl, rfl, hA, hS, hRk.out.snoc hCk.out, ?p1, ?p2, hlo, hlr, ?p3, ?p4⟩ ?pk ?py
        case p1 =>
          show (([] : List Card) ++ [ci]).length ≤ _
          rw [List.length_append]
          simp only [List.length_cons, List.length_nil] at hr1 ⊢
          omega
        case p2 => exact Nat.le_trans hr2 (Nat.le_succ _)
        case p3 =>
          intro d hd
          rcases List.mem_append.mp hd with hd | hd
          · exact hbd d hd
          · rw [List.mem_singleton.mp hd]; exact hbi
        case p4 =>
          rw [hgs]
          unfold stStep
          rw [if_pos hk1, hk2]
          rfl
        case pk =>
          intro p hp
          rw [List.mem_singleton.mp hp]
          with_unfolding_all rfl
        case py =>
          intro z z1 z2 z3
          have z4 : z ≠ Str.ofString "rows" := z2 _ (List.mem_singleton.mpr rfl)
          simp only [if_neg z4, if_neg z1, kstB, z3]
          rfl
      · rename isCont ci = _ => hk1
        rename readLabel ci.label = _ => hk3
        refine hexc _ (hgb _ ?_) _ _ _ _ (RaisedSE.sub (by assumption) fun q hq => .tail _ (.tail _ (hnr q hq))) (by assumption) (by assumption)
        unfold stStep; rw [hk1]; simp only [flush, hk3]; rfl
      · rename isCont ci = _ => hk1
        rename readLabel ci.label = _ => hk3
        rename Fr _ _ _ _ => F3
        rename News _ _ _ _ => N3
        rename _ ∧ _ ∧ AllLt _ _ => l3
        refine' TurnL.next' ⟨c.ov, c.on, _, [_], 1, c.st, [ci]⟩ [] F3 N3 (sub2 (.head _) (.tail _ (.tail _ (.head _))) (fun p hp => .tail _ (.tail _ (.tail _ hp)))) ?po (fun _ h => nomatch h) ⟨tl, rfl, hA, hS, .cons hCk.out .nil, ?p1, ?p2, l3.2.1, ?p5, ?p3, ?p4⟩ ?pk ?py
        case po => exact Off.two (fun p hp => Nat.ne_of_lt (allLt_to l3.2.2 p hp)) (Off.head (Off.rest ho))
        case p1 => exact Nat.succ_le_succ (Nat.zero_le _)
        case p2 => exact Nat.le_trans hr2 (Nat.le_succ _)
        case p5 => exact fun p hp => allLt_to l3.2.2 p (hnr p hp)
        case p3 =>
          intro d hd
          rw [List.mem_singleton.mp hd]; exact hbi
        case p4 =>
          rw [hgs]
          unfold stStep
          rw [hk1]
          simp only [flush, hk3]
          rfl
        case pk =>
          intro p hp
          rw [List.mem_singleton.mp hp]
          with_unfolding_all rfl
        case py =>
          intro z z1 z2 z3
          have z4 : z ≠ Str.ofString "rows" := z2 _ (List.mem_singleton.mpr rfl)
          simp only [if_neg z4, if_neg z1, kstB, z3]
          rfl
    | cons r0 rs =>
      have hrl1 : c.rv.length = rs.length + 1 := by rw [hRl, hrw]; rfl
      rw [hrw] at hR' hgb hgs hbd hRk hr1
      simp only [List.length_cons, List.length_nil] at hr1
      k_steps
      · rename isCont ci = _ => hk1
        rename chkBad ci _ most = _ => hk2
        refine hexc _ (hgb _ ?_) _ _ _ _ (RaisedSE.sub (by assumption) fun q hq => .tail _ (.tail _ (hnr q hq))) (by assumption) (by assumption)
        unfold stStep; rw [if_pos hk1, if_pos hk2]
      · rename isCont ci = _ => hk1
        rename chkBad ci _ most = _ => hk2
        rename Fr _ _ _ _ => F3
        rename News _ _ _ _ => N3
        refine' TurnL.next' ⟨c.ov, c.on, c.lr, c.rv ++ [_], c.rn + 1, c.st, (r0 :: rs) ++ [ci]⟩ [] F3 N3 (fun p hp => hp) (Off.two (Off.head ho) (Off.head (Off.rest ho))) (fun _ h => nomatch h) ⟨tl, rfl, hA, hS, hRk.out.snoc hCk.out, ?p1, ?p2, hlo, hlr, ?p3, ?p4⟩ ?pk ?py
        case p1 =>
          show ((r0 :: rs) ++ [ci]).length ≤ _
          rw [List.length_append]
          simp only [List.length_cons, List.length_nil] at hr1 ⊢
          omega
        case p2 => exact Nat.le_trans hr2 (Nat.le_succ _)
        case p3 =>
          intro d hd
          rcases List.mem_append.mp hd with hd | hd
          · exact hbd d hd
          · rw [List.mem_singleton.mp hd]; exact hbi
        case p4 =>
          rw [hgs]
          unfold stStep
          rw [if_pos hk1, hk2]
          rfl
        case pk =>
          intro p hp
          rw [List.mem_singleton.mp hp]
          with_unfolding_all rfl
        case py =>
          intro z z1 z2 z3
          have z4 : z ≠ Str.ofString "rows" := z2 _ (List.mem_singleton.mpr rfl)
          simp only [if_neg z4, if_neg z1, kstB, z3]
          rfl
      · rename isCont ci = _ => hk1
        rename joinedR _ _ = _ => hk4
        refine hexc _ (hgb _ ?_) _ _ _ _ (RaisedSE.sub (by assumption) fun q hq => .tail _ (.tail _ (hnr q hq))) (by assumption) (by assumption)
        unfold stStep; rw [hk1]; simp only [flush, hk4]; rfl
      · rename isCont ci = _ => hk1
        rename joinedR _ _ = _ => hk4
        rename readLabel ci.label = _ => hk3
        refine hexc _ (hgb _ ?_) _ _ _ _ (RaisedSE.sub (by assumption) fun q hq => .tail _ (.tail _ (.tail _ (hnr q hq)))) (by assumption) (by assumption)
        unfold stStep; rw [hk1]; simp only [flush, hk4, hk3]; rfl
      · rename isCont ci = _ => hk1
        rename joinedR _ _ = _ => hk4
        rename readLabel ci.label = _ => hk3
        rename Fr _ _ _ _ => F3
        rename News _ _ _ _ => N3
        rename _ ∧ _ ∧ _ ∧ AllLt _ _ => l4
        rename _ ∧ _ ∧ AllLt _ _ => l3
        obtain ⟨v, tx, hk5⟩ : ∃ v tx, joinedR (wd - 6) (r0 :: rs) = some (v, tx) := ⟨_, _, hk4⟩
        obtain ⟨rfl, rfl⟩ := Prod.mk.inj (Option.some.inj (hk5.symm.trans hk4))
        refine' TurnL.next' ⟨c.ov ++ [_], c.on + 1, _, [_], 1, c.st ++ [⟨r0.line, v, tx⟩], [ci]⟩ [(_, _)] F3 N3 (sub2 (.head _) (.tail _ (.tail _ (.tail _ (.head _)))) (List.forall_mem_cons.mpr ⟨.tail _ (.head _), fun p hp => .tail _ (.tail _ (.tail _ (.tail _ hp)))⟩)) ?po ?pa ⟨(_, _) :: tl, rfl, ?pA, ?pS, .cons hCk.out .nil, ?p1, ?p2, l4.2.2.1, ?p5, ?p3, ?p4⟩ ?pk ?py
        case po => exact Off.cons (fun p hp => Nat.ne_of_lt (allLt_to l4.2.2.2 p hp)) (Off.two (Off.head (Off.rest ho)) (fun p hp => Nat.ne_of_lt (allLt_to l3.2.2 p hp)))
        case pa => exact Off.two (List.forall_mem_cons.mpr ⟨Nat.ne_of_lt l4.1, fun _ h => nomatch h⟩) (List.forall_mem_cons.mpr ⟨Nat.ne_of_gt l3.2.1, fun _ h => nomatch h⟩)
        case pS => exact StmsAt.snoc (hS.mono fun p hp => .tail _ hp) (.head _)
        case pA => exact Above.cons (fun q hq => allLt_to l3.2.2 q (hnr q hq)) hA
        case p1 => exact Nat.succ_le_succ (Nat.zero_le _)
        case p2 =>
          show (c.ov ++ [_]).length ≤ _
          rw [List.length_append, List.length_singleton]
          omega
        case p5 => exact fun p hp => allLt_to l4.2.2.2 p (hnr p hp)
        case p3 =>
          intro d hd
          rw [List.mem_singleton.mp hd]; exact hbi
        case p4 =>
          rw [hgs]
          unfold stStep
          rw [hk1]
          simp only [flush, hk4, hk3]
          rfl
        case pk =>
          intro p hp
          rw [List.mem_singleton.mp hp]
          with_unfolding_all rfl
        case py =>
          intro z z1 z2 z3
          have z4 : z ≠ Str.ofString "rows" := z2 _ (List.mem_singleton.mpr rfl)
          simp only [if_neg z4, if_neg z1, kstB, z3]
          rfl
  case pd =>
    intro c tlc u h tk hc ho hP F2 N2
    obtain ⟨tl, rfl, hA, hS, hR, hr1, hr2, hlo, hlr, hbd, hgo⟩ := hP
    have hnr : ∀ p ∈ news, p ∈ tl ++ news := fun p hp => List.mem_append_right _ hp
    have hR' := hR.mono hnr
    have hRl := hR.length
    have hlo := ltN hlo
    rw [hcl, List.take_length] at hgo
    clear hR hcs
    have hst : stmtsR (wd - 6) most cards = flush (wd - 6) c.st c.rw := by unfold stmtsR; rw [hgo]
    dsimp only [List.cons_append, List.nil_append, envOf] at N2
    dsimp only [envOf] at F2
    cases hrw : c.rw with
    | nil =>
      have hrl0 : c.rv.length = 0 := by rw [hRl, hrw]; rfl
      rw [hrw] at hst
      k_steps
      rename News h₀ _ _ _ => kN
      exact hret c.st (by rw [hst]; rfl) _ _ lo c.ov c.on tl (by assumption) (fun p hp => kN p (.tail _ hp)) (Above.cons l1 hA) (fun p hp => Off.head (Off.rest ho) p (List.mem_append_left _ hp)) hS
    | cons r0 rs =>
      have hrl1 : c.rv.length = rs.length + 1 := by rw [hRl, hrw]; rfl
      rw [hrw] at hR' hst hbd hr1
      simp only [List.length_cons, List.length_nil] at hr1
      k_steps
      · rename joinedR _ _ = _ => hk4
        refine hexc r0.line (by rw [hst]; simp only [flush, hk4]) _ _ _ _ (RaisedSE.sub (by assumption) fun q hq => .tail _ (.tail _ (hnr q hq))) (by assumption) (by assumption)
      · rename joinedR _ _ = _ => hk4
        rename News h₀ _ _ _ => kN
        rename _ ∧ _ ∧ AllLt _ _ => l3
        obtain ⟨v, tx, hk5⟩ : ∃ v tx, joinedR (wd - 6) (r0 :: rs) = some (v, tx) := ⟨_, _, hk4⟩
        obtain ⟨rfl, rfl⟩ := Prod.mk.inj (Option.some.inj (hk5.symm.trans hk4))
        have lA := allLt_to l3.2.2
        refine' hret (c.st ++ [⟨r0.line, v, tx⟩]) (by rw [hst]; simp only [flush, hk5]) _ _ lo (c.ov ++ [_]) (c.on + 1) ((_, _) :: tl) (by assumption)
          (sub2b kN)  (Above.cons l1 (Above.cons (fun q hq => lA q (hnr q hq)) hA)) (List.forall_mem_cons.mpr ⟨Nat.ne_of_gt l3.2.1, fun p hp => Off.head (Off.rest ho) p (List.mem_append_left _ hp)⟩) (StmsAt.snoc (q := ⟨r0.line, v, tx⟩) (hS.mono fun p hp => .tail _ hp) (.head _))
end
theorem flush_P4 {prog : Program} {w : World} {A : Around} {env : Env} {Q : Flow → Shared → Prop} {E : Value → Shared → Prop} {s : Shared} (h : wpAny (model prog w) A (execs [] env) Q E s) : wpAny (model prog w) A (execs [] env) Q E s := by
  w_top off
  first | (walk1; fail) | exact h
section
theorem seenOf_len (row : Tx) (w : Nat) (hw : w ≤ 14) : (seenOf row w).length ≤ 14 := by
  unfold seenOf
  split
  · rw [List.length_append, blanks_len, List.length_take] at *
    omega
  · rw [List.length_take]; omega
theorem readCards_ok (w : Nat) (hw : w ≤ 14) (rows : List Tx) : ∀ d ∈ readCards w rows, bodyOk d := by
  intro d hd
  unfold readCards at hd
  obtain ⟨p, _, rfl⟩ := List.mem_map.mp hd
  have h := seenOf_len p.1 w hw
  refine ⟨?_, ?_, ?_⟩
  · show ((seenOf p.1 w).take 5).length ≤ 5
    rw [List.length_take]; omega
  · show (((seenOf p.1 w).drop 5).take 1).length ≤ 1
    rw [List.length_take]; omega
  · show ((seenOf p.1 w).drop 6).length ≤ 20
    rw [List.length_drop]; omega
theorem cutLast_len (rows : List Tx) : (cutLast rows).length ≤ rows.length := by
  unfold cutLast
  split
  · simp
  · exact Nat.le_refl _
/-- the reader's answer -/
noncomputable def readR (wd most : Int) (x : Str) : Except Int (List Stm) := stmtsR (wd - 6) most (readCards wd.toNat (cutLast (rowsOf x)))
local macro_rules | `(tactic| walk_at "call ref") => `(tactic| (k_here; (with_reducible show wpAny _ _ (call (Value.ref 102) [Value.str _ _, Value.ref _]) _ _ _); k_dflt (refine' c_rc ?B ?F ?X ?N ?T ?hk ?hd ?hu ?hx ?hlim ?hw ?_; (case B => k_asm); (case F => k_asm); (case X => k_asm); (case N => k_asm); (case T => k_asm); (case hk => first | exact rfl | assumption); (case hd => ktr_room); (case hu => ktr_units); (case hx => (first | assumption | omega | ((try simp only [List.length_append, List.length_take, List.length_drop, List.length_cons, List.length_nil, List.length_singleton, Mine.blanks_len]); omega) | (simp only [List.length_append, List.length_take, List.length_drop, List.length_cons, List.length_nil, List.length_singleton, Mine.blanks_len] at *; omega) | decide +kernel)); (case hlim => assumption); (case hw => assumption); k_whole); refine Stop.out ?_))
local macro_rules | `(tactic| walk_at "call ref") => `(tactic| (k_here; (with_reducible show wpAny _ _ (call (Value.ref 144) _) _ _ _); refine Stop.out ?_))
theorem c_rs {w : World} {mean : ExcName → Option Value} {mg mb : Str → Option Value} {dp un : Nat} {gd : Option (List Code)} {cn : Str} {cs' : Scope} {a : Addr} {ccd : Value} {cl : List (Str × Addr)} {outer : List Env} {A₀ : Around} {base h₀ : Heap} {L : Addr} {m : Str → Option Value} {s : Shared} {Q E : Value → Shared → Prop} {news : List (Addr × Obj)} {x : Str} {t : Tok} {lm : Addr} {wd most : Int}
  (B : Below A₀ base outer h₀) (F : Fr h₀ L s.heap m) (X : (Mine.hd.heap_1 w.params).In h₀) (N : News h₀ L s.heap news) (T : Top VW LS mean mg mb h₀) (hk : cs'.kind = .function) (hd : dp + 16 < recursionLimit) (hu : un + 140 < cLine)
  (hx : x.length ≤ 900) (hlim : LimAt w news lm wd most) (hw : 9 ≤ wd ∧ wd ≤ 14) (hexc : ∀ i, readR wd most x = .error i → ∀ e h' tk' g₂, RaisedSE w base (envX cn cs' L a ccd cl :: outer) e i news h' → g₂.UpToSlots h' → Fr h₀ L g₂ m → E (.ref e) { s with heap := h', toks := tk' })
  (hret : ∀ qs, readR wd most x = .ok qs → ∀ h' tk' lo os n own, Fr h₀ L h' m → News h₀ L h' ((lo, listOf os.toArray n) :: (own ++ news)) → Above ((lo, listOf os.toArray n) :: own) news → StmsAt own os qs → Q (.ref lo) { s with heap := h', toks := tk' }) :
  wpAny (model PySem.Challenge.rw_no0232_01.row.prog w) (ktrTop dp un gd cn cs' L a ccd cl outer) (call (.ref 151) [.str x t, .ref lm]) Q E s := by
  revert X
  k_fill
  intro X

  have hrl := rowsOf_len x
  refine wpAny_call ?_
  k_dflt cell_enter
  k_steps
  refine Stop.go ?_
  intro h' tk' l vs n own F1 N1 hA hO hC
  rename Fr _ _ _ _ => F'
  rename News _ _ _ _ => N'
  have hlen : (readCards wd.toNat (cutLast (rowsOf x))).length ≤ 1000 := by
    have h1 := readCards_len wd.toNat (cutLast (rowsOf x))
    have h2 := cutLast_len (rowsOf x)
    omega
  have hok := readCards_ok wd.toNat (by omega) (cutLast (rowsOf x))
  k_steps
  refine Stop.go ?_
  have hs : ∀ p ∈ own, p ∈ (l, listOf vs.toArray n) :: (own ++ news) := fun p hp => .tail _ (List.mem_append_left _ hp)
  have hs2 : ∀ p ∈ news, p ∈ (l, listOf vs.toArray n) :: (own ++ news) := fun p hp => .tail _ (List.mem_append_right _ hp)
  refine' c_st (wd := wd) (most := most) (by k_asm) (by k_asm) (by k_asm) (by k_asm) (by k_asm) rfl (by ktr_room) (by ktr_units) (hC.mono hs) (.head _) (hlim.mono hs2) hlen hok hw ?hexc ?hret
  case hexc =>
    intro i hi e h2 tk2 g2 R2 U2 F2
    k_dflt (refine leave_nextSE (by k_asm) F2 R2 U2 ?_)
    intro h3 R3 U3
    k_steps
    all_goals exact hexc i hi _ _ _ _ (RaisedSE.sub (by assumption) hs2) (by assumption) (by assumption)
  case hret =>
    intro qs hq h2 tk2 lo os n3 own2 F2 N2 hA2 hO2 hS
    k_steps
    rename News h₀ _ _ _ => kN
    refine hret qs hq _ _ lo os n3 (own2 ++ ((l, listOf vs.toArray n) :: own)) (by assumption) (fun p hp => kN p ?_) ?_ (hS.mono fun p hp => List.mem_append_left _ hp)
    · rcases List.mem_cons.mp hp with rfl | hp
      · exact .head _
      · refine .tail _ ?_
        rwa [List.append_assoc, List.cons_append] at hp
    · intro q hq p hp
      rcases List.mem_cons.mp hp with rfl | hp
      · exact hA2 q (hs2 q hq) _ (.head _)
      · rcases List.mem_append.mp hp with hp | hp
        · exact hA2 q (hs2 q hq) _ (.tail _ hp)
        · exact hA q hq p hp
end
theorem flush_P5 {prog : Program} {w : World} {A : Around} {env : Env} {Q : Flow → Shared → Prop} {E : Value → Shared → Prop} {s : Shared} (h : wpAny (model prog w) A (execs [] env) Q E s) : wpAny (model prog w) A (execs [] env) Q E s := by
  w_top off
  first | (walk1; fail) | exact h
section
/-- what the law's reader holds -/
structure Held where
  line : Int
  lab : Int
  parts : List Tx
def lawSeen (row : Tx) (w : Nat) : Tx := (row ++ blanks 40).take w
def inCc (l : Tx) : Bool := decide (l = [67]) || decide (l = [99]) || decide (l = [42])
def lawSkip (row : Tx) (w : Nat) : Bool := (decide (row.take 1 ≠ []) && inCc (row.take 1)) || decide (lawSeen row w = blanks w)
def isMark0 (seen : Tx) : Bool := decide ((seen.drop 5).take 1 = [32]) || decide ((seen.drop 5).take 1 = [48])
def isDig (c : Nat) : Bool := decide (48 ≤ c ∧ c ≤ 57)
def wholeOf (w : Nat) (parts : List Tx) : Tx := (parts.dropLast.map fun p => (p ++ blanks w).take (w - 6)).flatten ++ parts.getLastD []
def lawFlush (w : Nat) (st : List Stm) (hd : Option Held) : Except Int (List Stm) := match hd with
  | none => .ok st
  | some h => if nb (wholeOf w h.parts) = [] then .error h.line else .ok (st ++ [⟨h.line, h.lab, wholeOf w h.parts⟩])
inductive LRes
  | go (st : List Stm) (hd : Option Held) (ct : Int)
  | err (i : Int)
  | out (st : List Stm)
def labV (ds : Tx) : Int := ((PySem.NumText.digitsVal (48 :: ds) : Nat) : Int)
def lawTurn (n w : Nat) (most : Int) (i : Nat) (row : Tx) (st : List Stm) (hd : Option Held) (ct : Int) : LRes :=
  if lawSkip row w = true then .go st hd ct
  else if isMark0 (lawSeen row w) = true then
    match lawFlush w st hd with
    | .error e => .err e
    | .ok st' =>
      if i = n then .out st'
      else if (nb ((lawSeen row w).take 5)).all isDig = false then .err (i + 1 : Nat)
      else if nb ((lawSeen row w).take 5) ≠ [] ∧ labV (nb ((lawSeen row w).take 5)) = 0 then .err (i + 1 : Nat)
      else .go st' (some ⟨(i + 1 : Nat), labV (nb ((lawSeen row w).take 5)), [(row.take w).drop 6]⟩) 0
  else match hd with
    | none => .err (i + 1 : Nat)
    | some h =>
      if (lawSeen row w).take 5 ≠ blanks 5 ∨ most < ct + 1 then .err (i + 1 : Nat)
      else if nb (h.parts.headD []) = [69, 78, 68] then .err (i + 1 : Nat)
      else .go st (some ⟨h.line, h.lab, h.parts ++ [(row.take w).drop 6]⟩) (ct + 1)
noncomputable def lawGo (n w : Nat) (most : Int) : List Tx → Nat → List Stm → Option Held → Int → Except Int (List Stm)
  | [], _, st, _, _ => .ok st
  | r :: rs, i, st, hd, ct => match lawTurn n w most i r st hd ct with
    | .go st' hd' ct' => lawGo n w most rs (i + 1) st' hd' ct'
    | .err e => .error e
    | .out st' => .ok st'
def endRow : Tx := [32, 32, 32, 32, 32, 32, 69, 78, 68]
noncomputable def lawR (rows : List Tx) (w : Nat) (most : Int) : Except Int (List Stm) := lawGo rows.length w most (rows ++ [endRow]) 0 [] none 0
theorem lit_end : Str.ofString "      END" = S endRow := by decide +kernel
def okT (l : Tx) : Prop := ∀ c ∈ l, c < 1114112
theorem okT.app {a b : Tx} (ha : okT a) (hb : okT b) : okT (a ++ b) := fun c hc => (List.mem_append.mp hc).elim (ha c) (hb c)
theorem okT.sub {a b : Tx} (ha : okT a) (hs : ∀ c ∈ b, c ∈ a) : okT b := fun c hc => ha c (hs c hc)
theorem okT.blanks (n : Nat) : okT (blanks n) := fun c hc => by rw [List.eq_of_mem_replicate hc]; decide
theorem okT.take {a : Tx} (ha : okT a) (n : Nat) : okT (a.take n) := ha.sub fun _ h => List.mem_of_mem_take h
theorem okT.drop {a : Tx} (ha : okT a) (n : Nat) : okT (a.drop n) := ha.sub fun _ h => List.mem_of_mem_drop h
theorem okT.nb {a : Tx} (ha : okT a) : okT (nb a) := ha.sub fun _ h => (List.mem_filter.mp h).1
theorem strOk_S {a : Tx} (h : okT a) : PyData.strOk (S a) = true := by
  unfold PyData.strOk S
  simp only [List.all_toArray, List.all_eq_true, decide_eq_true_eq]
  exact h
theorem endRow_ok : okT endRow := by unfold okT; decide
end
theorem flush_L1 {prog : Program} {w : World} {A : Around} {env : Env} {Q : Flow → Shared → Prop} {E : Value → Shared → Prop} {s : Shared} (h : wpAny (model prog w) A (execs [] env) Q E s) : wpAny (model prog w) A (execs [] env) Q E s := by
  w_top off
  first | (walk1; fail) | exact h
section
open PySem.Spec PySem.SeqAt
theorem canLayAll_texts {rs : List Tx} (h : ∀ r ∈ rs, okT r) : PyData.canLayAll0 (rs.map fun r => PyData.str (S r)) = true := by
  induction rs with
  | nil => rfl
  | cons r rs ih =>
    simp only [List.map_cons, PyData.canLayAll0, PyData.canLay0, Bool.and_eq_true]
    exact ⟨strOk_S (h r (.head _)), ih fun q hq => h q (.tail _ hq)⟩
theorem depthAll_texts (rs : List Tx) : PyData.depthAll (rs.map fun r => PyData.str (S r)) = 0 := by
  induction rs with
  | nil => rfl
  | cons r rs ih => simp only [List.map_cons, PyData.depthAll, PyData.depth, ih]; rfl
theorem shaped_texts {rs : List Tx} (h : ∀ r ∈ rs, okT r) : shaped (.list (rs.map fun r => PyData.str (S r))) = true := by
  unfold shaped
  rw [show PyData.canLay0 (.list (rs.map fun r => PyData.str (S r))) = PyData.canLayAll0 (rs.map fun r => PyData.str (S r)) from rfl, canLayAll_texts h]
  simp only [PyData.depth, depthAll_texts]
  decide
theorem shaped_held {rs : List Tx} {i j : Int} (h : ∀ r ∈ rs, okT r) : shaped (.list (.int i :: .int j :: rs.map fun r => PyData.str (S r))) = true := by
  unfold shaped
  rw [show PyData.canLay0 (.list (.int i :: .int j :: rs.map fun r => PyData.str (S r))) = (true && (true && PyData.canLayAll0 (rs.map fun r => PyData.str (S r)))) from rfl, canLayAll_texts h]
  simp only [PyData.depth, PyData.depthAll, depthAll_texts]
  decide
theorem reads_texts {h : Heap} {vs : List Value} {rs : List Tx} (hT : TextsAre vs rs) : ReadsAll h vs (rs.map fun r => PyData.str (S r)) [] := by
  induction hT with
  | nil => exact .nil
  | cons r t _ ih => exact .cons (as := []) (bs := []) (.str _ _) ih
section
variable {prog : Program} {w : World} {A : Around} {E : Value → Shared → Prop} {s : Shared} {h₀ : Heap} {L a b : Addr} {m : Str → Option Value} {news : List (Addr × Obj)} {vs : List Value} {n k : Nat} {ds : List PyData} {Q : Value → Shared → Prop}
theorem eqv_nil : ∀ ds : List PyData, PyData.eqv (.list ds) (.list []) = ds.isEmpty
  | [] => rfl
  | _ :: _ => rfl
theorem eq_nilK (N : News h₀ L s.heap news) (ha : (a, listOf vs.toArray n) ∈ news) (hb : (b, listOf ([] : List Value).toArray k) ∈ news) (hr : ReadsAll s.heap vs ds []) (hs : shaped (.list ds) = true) (hu : A.units + 64 < cLine)
    (h : Q (.bool ds.isEmpty) s) : wpAny (model prog w) A (compareOp .Eq (.ref a) (.ref b)) Q E s := by
  refine eq_dataH (reads_list_at (N.get ha) rfl rfl (by simpa using hr)) (reads_list_at (N.get hb) rfl rfl (by simpa using ReadsAll.nil)) hs (by decide) hu ?_
  rw [eqv_nil]
  exact h
theorem ne_nilK (N : News h₀ L s.heap news) (ha : (a, listOf vs.toArray n) ∈ news) (hb : (b, listOf ([] : List Value).toArray k) ∈ news) (hr : ReadsAll s.heap vs ds []) (hs : shaped (.list ds) = true) (hu : A.units + 64 < cLine)
    (h : Q (.bool (!ds.isEmpty)) s) : wpAny (model prog w) A (compareOp .NotEq (.ref a) (.ref b)) Q E s := by
  refine ne_dataH (reads_list_at (N.get ha) rfl rfl (by simpa using hr)) (reads_list_at (N.get hb) rfl rfl (by simpa using ReadsAll.nil)) hs (by decide) hu ?_
  rw [eqv_nil]
  exact h
end
theorem occ_one (x : Str) (c : Nat) : (Builtin.Str.occurrences x (S [c]) 0 x.length 1).isEmpty = !decide (c ∈ x.cps.toList) := by
  have := StrLaws.found_one x c
  rw [← this, Bool.not_not]
  rfl
theorem lit_Cc : (Str.ofString "Cc*").cps.toList = [67, 99, 42] := by decide +kernel
theorem lit_s0 : (Str.ofString " 0").cps.toList = [32, 48] := by decide +kernel
theorem lit_digs : (Str.ofString "0123456789").cps.toList = [48, 49, 50, 51, 52, 53, 54, 55, 56, 57] := by decide +kernel
theorem lit_5 : Str.ofString "     " = S (blanks 5) := by decide +kernel
theorem skip_1 {row : Tx} {w : Nat} (h1 : (S (row.take (1 : Int).toNat) != Str.ofString "") = true) (h2 : (Builtin.Str.occurrences (Str.ofString "Cc*") (S ((row.drop (0 : Int).toNat).take 1)) 0 (Str.ofString "Cc*").length 1).isEmpty = false) : lawSkip row w = true := by
  cases row with
  | nil => simp [bne, lit_nil, S_beq] at h1
  | cons c r =>
    rw [show (((c :: r) : Tx).drop (0 : Int).toNat).take 1 = [c] from rfl, occ_one, lit_Cc] at h2
    unfold lawSkip inCc
    simp at h2 ⊢
    omega
theorem skip_2 {row : Tx} {w : Nat} {b : Bool} (h2 : (Builtin.Str.occurrences (Str.ofString "Cc*") (S ((row.drop (0 : Int).toNat).take 1)) 0 (Str.ofString "Cc*").length 1).isEmpty = true)
    (h3 : (S ((row ++ blanks (40 : Int).toNat).take w) == S (blanks w)) = b) : lawSkip row w = b := by
  rw [S_beq] at h3
  unfold lawSkip
  rw [show lawSeen row w = (row ++ blanks (40 : Int).toNat).take w from rfl, h3]
  cases row with
  | nil => simp
  | cons c r =>
    rw [show (((c :: r) : Tx).drop (0 : Int).toNat).take 1 = [c] from rfl, occ_one, lit_Cc] at h2
    unfold inCc
    simp at h2 ⊢
    intro h
    omega
theorem skip_3 {row : Tx} {w : Nat} {b : Bool} (h1 : (S (row.take (1 : Int).toNat) != Str.ofString "") = false)
    (h3 : (S ((row ++ blanks (40 : Int).toNat).take w) == S (blanks w)) = b) : lawSkip row w = b := by
  rw [S_beq] at h3
  unfold lawSkip
  rw [show lawSeen row w = (row ++ blanks (40 : Int).toNat).take w from rfl, h3]
  cases row with
  | nil => simp
  | cons c r => simp [bne, lit_nil, S_beq] at h1
theorem mark_v {seen : Tx} (hs : 5 < seen.length) {b : Bool} (h : (Builtin.Str.occurrences (Str.ofString " 0") (S ((seen.drop (5 : Int).toNat).take 1)) 0 (Str.ofString " 0").length 1).isEmpty = !b) : isMark0 seen = b := by
  have e : (seen.drop 5).take 1 = [seen[5]] := drop_take1 seen 5 hs
  rw [show (5 : Int).toNat = 5 from rfl, e, occ_one, lit_s0] at h
  unfold isMark0
  rw [e]
  cases b <;> simp at h ⊢ <;> omega
section
variable {M : Model} {A : Around} {E : Value → Shared → Prop} {s : Shared} {h₀ : Heap} {L : Addr} {m : Str → Option Value} {news : List (Addr × Obj)}
/-- a value that is read off, the ledger as it was -/
def CutV {α : Type} (h₀ : Heap) (L : Addr) (m : Str → Option Value) (news : List (Addr × Obj)) (s : Shared) (P : α → Prop) (v : α) (s' : Shared) : Prop :=
  ∃ h' tk', P v ∧ s' = { s with heap := h', toks := tk' } ∧ Fr h₀ L h' m ∧ News h₀ L h' news
theorem CutV.intro {α : Type} {P : α → Prop} {v : α} {news' : List (Addr × Obj)} {h' : Heap} {tk' : Nat} (e : P v) (F : Fr h₀ L h' m) (N : News h₀ L h' news') (hs : ∀ p ∈ news, p ∈ news') :
    CutV h₀ L m news s P v { s with heap := h', toks := tk' } := ⟨h', tk', e, rfl, F, fun p hp => N p (hs p hp)⟩
theorem cut_str {x : Sem Value} {Q : Value → Shared → Prop} (row : Tx) (F : Fr h₀ L s.heap m) (N : News h₀ L s.heap news)
    (h1 : wpAny M A x (CutV h₀ L m news s fun v => ∃ t, v = .str (S row) t) E s)
    (h2 : ∀ t h' tk', Fr h₀ L h' m → News h₀ L h' news → Q (.str (S row) t) { s with heap := h', toks := tk' }) : wpAny M A x Q E s :=
  wpAny_mono h1 (fun v s' ⟨h', tk', ⟨t, e1⟩, e2, F', N'⟩ => by subst e1 e2; exact h2 t h' tk' F' N') fun _ _ e => e
theorem cut_bool {x : Sem Bool} {Q : Bool → Shared → Prop} (b : Bool) (F : Fr h₀ L s.heap m) (N : News h₀ L s.heap news)
    (h1 : wpAny M A x (CutV h₀ L m news s fun v => v = b) E s)
    (h2 : ∀ h' tk', Fr h₀ L h' m → News h₀ L h' news → Q b { s with heap := h', toks := tk' }) : wpAny M A x Q E s :=
  wpAny_mono h1 (fun v s' ⟨h', tk', e1, e2, F', N'⟩ => by subst e1 e2; exact h2 h' tk' F' N') fun _ _ e => e
end
theorem lawSeen_len (row : Tx) (w : Nat) (hw : w ≤ 40) : (lawSeen row w).length = w := by
  unfold lawSeen
  rw [List.length_take, List.length_append, blanks_len]
  omega
end
theorem flush_Q0 {prog : Program} {w : World} {A : Around} {env : Env} {Q : Flow → Shared → Prop} {E : Value → Shared → Prop} {s : Shared} (h : wpAny (model prog w) A (execs [] env) Q E s) : wpAny (model prog w) A (execs [] env) Q E s := by
  w_top off
  first | (walk1; fail) | exact h
section
open PySem.Spec
def pzV (pz : Tx → Bool) (v : Value) : Bool := match v with
  | .str y _ => pz y.cps.toList
  | _ => false
theorem TextsAre.filt {vs : List Value} {rs : List Tx} (pz : Tx → Bool) (h : TextsAre vs rs) : TextsAre (vs.filter (pzV pz)) (rs.filter pz) := by
  induction h with
  | nil => exact .nil
  | cons r t _ ih =>
    simp only [List.filter_cons]
    rw [show pzV pz (.str (S r) t) = pz r from rfl]
    cases pz r with
    | true => exact .cons r t ih
    | false => exact ih
theorem texts_at : ∀ {vs : List Value} {rs : List Tx}, vs.length = rs.length → (∀ (j : Nat) (v : Value), vs[j]? = some v → ∃ (r : Tx) (u : Tok), rs[j]? = some r ∧ v = Value.str (S r) u) → TextsAre vs rs
  | [], [], _, _ => .nil
  | [], _ :: _, h, _ => by cases h
  | _ :: _, [], h, _ => by cases h
  | v :: vs, r :: rs, h, hg => by
    obtain ⟨r', u, h1, rfl⟩ := hg 0 v rfl
    have e : r = r' := by simpa using h1
    subst e
    exact TextsAre.cons r u (texts_at (by simpa using h) fun j u hu => by simpa using hg (j + 1) u (by simpa using hu))
theorem paired_eq : ∀ {vs ys : List Value}, Paired (fun v y => y = v) vs ys → ys = vs
  | [], [], _ => rfl
  | [], _ :: _, h => by cases h
  | _ :: _, [], h => by cases h
  | _ :: _, _ :: _, h => by
    cases h with
    | cons h r => rw [h, paired_eq r]
section
variable {prog : Program} {w : World} {A : Around} {E : Value → Shared → Prop} {s : Shared} {h₀ : Heap} {L l : Addr} {m : Str → Option Value} {news : List (Addr × Obj)} {env : Env}
theorem lead {name : Str} {D : Addr} {h' : Heap} {m' : Str → Option Value} {ys : Array Value} (F : Fr h₀ L h' m') (N : News h₀ L h' news) (hD : h₀.get? D = none) (hp : h'.PlainList D ys) :
    ∃ n, News h₀ L h' ((D, listOf ys.toList.toArray n) :: news) := by
  obtain ⟨n, hget⟩ := hp
  have hDL : D ≠ L := by
    intro e
    obtain ⟨o, es, ep, ho, hd, _⟩ := F.ns
    rw [← e, hget] at ho
    cases ho
    cases hd
  refine ⟨n, fun p hp => ?_⟩
  rcases List.mem_cons.mp hp with rfl | hp
  · exact ⟨by rw [Array.toArray_toList]; exact hget, hDL, hD⟩
  · exact N p hp
/-- a test of one clause over texts, that reads alone -/
def TestOn (prog : Program) (w : World) (A : Around) (env : Env) (scope : Scope) (x : Str) (ct : Expr) (pz : Tx → Bool) : Prop :=
  ∀ C r u (s₃ : Shared) (m₃ : Str → Option Value) (E' : Value → Shared → Prop), s₃.heap.Ns C m₃ → m₃ x = some (.str (S r) u) →
    wpAny (model prog w) A (isTrue ct (compEnv scope C env) (eval ct (compEnv scope C env))) (fun ok s₄ => ok = pz r ∧ ∃ tk, s₄ = { s₃ with toks := tk }) E' s₃
theorem quiet_of {scope : Scope} {x : Str} {px : Pos} {ct : Expr} {pz : Tx → Bool} {wr : List Addr} {P : Nat → Value → Prop} {s₂ : Shared} (hd : (x == ("__debug__" : Str)) = false) (hkind : scope.kind = .function) (hx : scope.names.lookup x = some .local)
    (ht : TestOn prog w A env scope x ct pz) (hP : ∀ i v, P i v → ∃ r u, v = .str (S r) u) : QuietOn prog w A env scope x [ct] (.Name x px) wr P (pzV pz) (fun v y => y = v) s₂ := by
  refine ⟨?_, ?_⟩
  · intro C i v s₃ m₃ E' hv hn hm _ _
    obtain ⟨r, u, rfl⟩ := hP i v hv
    refine wpAny_tests_one (wpAny_mono (ht C r u s₃ m₃ E' hn hm) (fun ok s₄ h => ?_) fun _ _ e => e)
    obtain ⟨rfl, tk, rfl⟩ := h
    exact ⟨rfl, _, _, rfl, fun _ _ e => e⟩
  · intro C i v s₃ m₃ E' hv _ hn hm _ _
    exact wpAny_Name (wpAny_loadName_local (env := compEnv scope C env) hkind hx hn hm ⟨rfl, _, _, rfl, fun _ _ e => e⟩) hd
theorem comp_str {ct iter : Expr} {x : Str} {px pe : Pos} {scope : Scope} {pos : Pos} {Q : Value → Shared → Prop} (pz : Tx → Bool) (hd : (x == ("__debug__" : Str)) = false) (hh : A.handled = none)
    (hfree : ∀ y ∈ scope.names, y.2 ≠ .free) (hcell : ∀ y ∈ scope.names, y.2 ≠ .cell) (hkind : scope.kind = .function)
    (hnames : ∀ y ∈ scope.names, y.2 = .local → scope.names.lookup y.1 = some .local) (hx : scope.names.lookup x = some .local) (ht : TestOn prog w A env scope x ct pz)
    (h : wpAny (model prog w) A (eval iter env) (fun xv s₁ => ∃ l t, xv = .str (S l) t ∧ l.length ≤ 100000 ∧ Fr h₀ L s₁.heap m ∧ News h₀ L s₁.heap news ∧
      ∀ D ys n h' tk, Fr h₀ L h' m → News h₀ L h' ((D, listOf ys.toArray n) :: news) → (∀ p ∈ news, p.1 ≠ D) → TextsAre ys ((l.map fun c => [c]).filter pz) → Q (.ref D) { s₁ with heap := h', toks := tk }) E s)
    (hs : ∀ x, foldedSetIterable iter env x = pure x) :
    wpAny (model prog w) A (eval (.ListComp (.Name x pe) [⟨.Name x px, iter, [ct], 0⟩] scope pos) env) Q E s := by
  refine wpAny_ListComp_walk (pzV pz) (fun v y => y = v) hfree hcell hkind hnames hx (wpAny_mono h (fun xv s₁ h₁ => ?_) fun _ _ e => e) hs
  obtain ⟨l, t, rfl, hsz, F, N, hQ⟩ := h₁
  refine wpAny_pyIter_str fun o St W hst => ?_
  have up : ∀ (h' : Heap), (∀ b o', b ∉ [s₁.heap.objs.size] → (s₁.heap.push o).get? b = some o' → h'.get? b = some o') → ∀ b o', s₁.heap.get? b = some o' → h'.get? b = some o' :=
    fun h' hk b o' e => hk b o' (old_not_new e) (Heap.get?_push_of_some _ e)
  have hSg : ∀ i v, SignAt (S l) i v → ∃ r u, (l.map fun c => [c])[i]? = some r ∧ v = .str (S r) u := by
    rintro i v ⟨c, u, hc, rfl⟩
    refine ⟨[c], u, ?_, rfl⟩
    have : l[i]? = some c := by simpa [S] using hc
    simp [this]
  refine ⟨s₁.heap.objs.size, [s₁.heap.objs.size], [s₁.heap.objs.size], (S l).cps.size, SignAt (S l), St, rfl, W A hh, ?_, hst, ?_, quiet_of hd hkind hx ht fun i v hv => ?_, ?_⟩
  · rw [sizeLine_eq]
    show (S l).length ≤ _
    rw [S_len]; omega
  · intro b hb
    show b < (s₁.heap.push o).objs.size
    rw [Heap.size_push, List.mem_singleton.mp hb]
    exact Nat.lt_succ_self _
  · obtain ⟨r, u, _, e⟩ := hSg i v hv
    exact ⟨r, u, e⟩
  · intro D h' tk ys vs hnew hlD hplD hlen hP hF hk
    have T := (texts_at (by rw [hlen]; simp [S]) fun j v hv => hSg j v (hP j v hv)).filt pz
    have hD0 : h₀.get? D = none := by
      cases e : h₀.get? D with
      | none => rfl
      | some o' => rw [Heap.get?_push_of_some _ (F.keep _ _ e)] at hnew; cases hnew
    have F' := F.keeps (up h' hk)
    obtain ⟨n, N'⟩ := lead (name := x) F' (N.grown (up h' hk)) hD0 hplD
    refine hQ D ys.toList n h' tk F' N' (fun p hp e => ?_) (by rw [paired_eq hF]; exact T)
    rw [← e, Heap.get?_push_of_some _ (N p hp).1] at hnew
    cases hnew
theorem comp_list {ct iter : Expr} {x : Str} {px pe : Pos} {scope : Scope} {pos : Pos} {Q : Value → Shared → Prop} (pz : Tx → Bool) (hd : (x == ("__debug__" : Str)) = false) (hh : A.handled = none)
    (hfree : ∀ y ∈ scope.names, y.2 ≠ .free) (hcell : ∀ y ∈ scope.names, y.2 ≠ .cell) (hkind : scope.kind = .function)
    (hnames : ∀ y ∈ scope.names, y.2 = .local → scope.names.lookup y.1 = some .local) (hx : scope.names.lookup x = some .local) (ht : TestOn prog w A env scope x ct pz)
    (h : wpAny (model prog w) A (eval iter env) (fun xv s₁ => ∃ l vs rs k, xv = .ref l ∧ (l, listOf vs.toArray k) ∈ news ∧ TextsAre vs rs ∧ rs.length ≤ 100000 ∧ Fr h₀ L s₁.heap m ∧ News h₀ L s₁.heap news ∧
      ∀ D ys n h' tk, Fr h₀ L h' m → News h₀ L h' ((D, listOf ys.toArray n) :: news) → (∀ p ∈ news, p.1 ≠ D) → TextsAre ys (rs.filter pz) → Q (.ref D) { s₁ with heap := h', toks := tk }) E s)
    (hs : ∀ x, foldedSetIterable iter env x = pure x) :
    wpAny (model prog w) A (eval (.ListComp (.Name x pe) [⟨.Name x px, iter, [ct], 0⟩] scope pos) env) Q E s := by
  refine wpAny_ListComp_walk (pzV pz) (fun v y => y = v) hfree hcell hkind hnames hx (wpAny_mono h (fun xv s₁ h₁ => ?_) fun _ _ e => e) hs
  obtain ⟨l, ws, rs, k, rfl, hm, hT, hsz, F, N, hQ⟩ := h₁
  have hl0 := N _ hm
  have hls : s₁.heap.IsList l ws.toArray := ⟨_, hl0.1, rfl, k, rfl⟩
  have hlt : l < s₁.heap.objs.size := Heap.lt_size hl0.1
  have hne : l ≠ s₁.heap.objs.size := Nat.ne_of_lt hlt
  refine wpAny_pyIter_list hls ?_
  have W := Walks.list (prog := prog) (w := w) hh s₁.heap.objs.size l hne ws.toArray
  have up : ∀ (h' : Heap), (∀ b o', b ∉ [s₁.heap.objs.size] → (s₁.heap.push { cls := .type "list_iterator", data := .fields #[.ref l, .int 0 0] }).get? b = some o' → h'.get? b = some o') → ∀ b o', s₁.heap.get? b = some o' → h'.get? b = some o' :=
    fun h' hk b o' e => hk b o' (old_not_new e) (Heap.get?_push_of_some _ e)
  refine ⟨_, _, _, _, _, _, rfl, W, ?_, ⟨⟨_, Heap.get?_push_size _ rfl, rfl, rfl⟩, hls.at fun o e => Heap.get?_push_of_some _ e⟩, ?_, quiet_of hd hkind hx ht fun i v hv => ?_, ?_⟩
  · rw [sizeLine_eq, List.size_toArray, hT.length]; omega
  · intro b hb
    show b < (s₁.heap.push _).objs.size
    rw [Heap.size_push]
    rcases List.mem_cons.mp hb with rfl | hb
    · exact Nat.lt_succ_self _
    · rw [List.mem_singleton.mp hb]; exact Nat.lt_succ_of_lt hlt
  · obtain ⟨r, u, _, e⟩ := hT.got (i := i) (v := v) (by simpa using hv)
    exact ⟨r, u, e⟩
  · intro D h' tk ys vs hnew hlD hplD hlen hP hF hk
    have T := (texts_at (vs := vs) (rs := rs) (by rw [hlen, List.size_toArray, hT.length]) fun j v hv => hT.got (by simpa using hP j v hv)).filt pz
    have hD0 : h₀.get? D = none := by
      cases e : h₀.get? D with
      | none => rfl
      | some o' => rw [Heap.get?_push_of_some _ (F.keep _ _ e)] at hnew; cases hnew
    have F' := F.keeps (up h' hk)
    obtain ⟨n, N'⟩ := lead (name := x) F' (N.grown (up h' hk)) hD0 hplD
    refine hQ D ys.toList n h' tk F' N' (fun p hp e => ?_) (by rw [paired_eq hF]; exact T)
    rw [← e, Heap.get?_push_of_some _ (N p hp).1] at hnew
    cases hnew
theorem comp_strA {ct iter : Expr} {x y : Str} {px pe py : Pos} {scope : Scope} {pos spos : Pos} {Q : Flow → Shared → Prop} (pz : Tx → Bool) (hLe : env.locals = L) (hd : (x == ("__debug__" : Str)) = false) (hh : A.handled = none)
    (hsw : swapsWith (.ListComp (.Name x pe) [⟨.Name x px, iter, [ct], 0⟩] scope pos) (some (.Name y py)) spos.line env = pure true)
    (hfree : ∀ y ∈ scope.names, y.2 ≠ .free) (hcell : ∀ y ∈ scope.names, y.2 ≠ .cell) (hkind : scope.kind = .function)
    (hnames : ∀ y ∈ scope.names, y.2 = .local → scope.names.lookup y.1 = some .local) (hx : scope.names.lookup x = some .local)
    (hy : env.kindOf y = some .local) (hp : (env.scope.kind == .class || (env.scope.kind == .module && env.locals != env.globals)) = false) (ht : TestOn prog w A env scope x ct pz)
    (h : wpAny (model prog w) A (eval iter env) (fun xv s₁ => ∃ l t, xv = .str (S l) t ∧ l.length ≤ 100000 ∧ Fr h₀ L s₁.heap m ∧ News h₀ L s₁.heap news ∧
      ∀ D ys n h' tk, Fr h₀ L h' (fun z => if z = y then some (.ref D) else m z) → News h₀ L h' ((D, listOf ys.toArray n) :: news) → (∀ p ∈ news, p.1 ≠ D) → TextsAre ys ((l.map fun c => [c]).filter pz) → Q .next { s₁ with heap := h', toks := tk }) E s)
    (hs : ∀ x, foldedSetIterable iter env x = pure x) :
    wpAny (model prog w) A (exec (.Assign [.Name y py] (.ListComp (.Name x pe) [⟨.Name x px, iter, [ct], 0⟩] scope pos) spos) env) Q E s := by
  subst hLe
  refine wpAny_Assign_ListComp_walk (pzV pz) (fun v y => y = v) hsw hfree hcell hkind hnames hx hy hp (wpAny_mono h (fun xv s₁ h₁ => ?_) fun _ _ e => e) hs
  obtain ⟨l, t, rfl, hsz, F, N, hQ⟩ := h₁
  refine wpAny_pyIter_str fun o St W hst => ?_
  have hSg : ∀ i v, SignAt (S l) i v → ∃ r u, (l.map fun c => [c])[i]? = some r ∧ v = .str (S r) u := by
    rintro i v ⟨c, u, hc, rfl⟩
    refine ⟨[c], u, ?_, rfl⟩
    have : l[i]? = some c := by simpa [S] using hc
    simp [this]
  have hLI : env.locals ≠ s₁.heap.objs.size := fun e => absurd F.ns.lt (e ▸ Nat.lt_irrefl _)
  refine ⟨s₁.heap.objs.size, [s₁.heap.objs.size], [s₁.heap.objs.size], (S l).cps.size, SignAt (S l), St, m, rfl, W A hh, ?_, hst, ?_, ?_, (F.push o).ns, quiet_of hd hkind hx ht fun i v hv => ?_, ?_⟩
  · rw [sizeLine_eq]
    show (S l).length ≤ _
    rw [S_len]; omega
  · intro b hb
    show b < (s₁.heap.push o).objs.size
    rw [Heap.size_push, List.mem_singleton.mp hb]
    exact Nat.lt_succ_self _
  · intro hm
    exact hLI (List.mem_singleton.mp hm)
  · obtain ⟨r, u, _, e⟩ := hSg i v hv
    exact ⟨r, u, e⟩
  · intro D h' tk ys vs hnew hlD hplD hlen hP hF hn' hk
    have T := (texts_at (by rw [hlen]; simp [S]) fun j v hv => hSg j v (hP j v hv)).filt pz
    have hD0 : h₀.get? D = none := by
      cases e : h₀.get? D with
      | none => rfl
      | some o' => rw [Heap.get?_push_of_some _ (F.keep _ _ e)] at hnew; cases hnew
    have F' : Fr h₀ env.locals h' (fun z => if z = y then some (.ref D) else m z) :=
      ⟨hn', fun b o' e => hk b o' (Nat.ne_of_lt (Nat.lt_of_lt_of_le (Heap.lt_size e) F.above)) (old_not_new (F.keep b o' e)) (Heap.get?_push_of_some _ (F.keep b o' e)), F.above⟩
    have N' : News h₀ env.locals h' news := fun p hp => ⟨hk _ _ (N p hp).2.1 (old_not_new (N p hp).1) (Heap.get?_push_of_some _ (N p hp).1), (N p hp).2⟩
    obtain ⟨n, N''⟩ := lead (name := x) F' N' hD0 hplD
    refine hQ D ys.toList n h' tk F' N'' (fun p hp e => ?_) (by rw [paired_eq hF]; exact T)
    rw [← e, Heap.get?_push_of_some _ (N p hp).1] at hnew
    cases hnew
theorem comp_str' {ct iter : Expr} {x : Str} {px pe : Pos} {scope : Scope} {pos : Pos} {Q : Value → Shared → Prop} (pz : Tx → Bool) (l : Tx) (hl : l.length ≤ 100000)
    (_F : Fr h₀ L s.heap m) (_N : News h₀ L s.heap news)
    (h1 : wpAny (model prog w) A (eval iter env) (CutV h₀ L m news s fun v => ∃ t, v = .str (S l) t) E s)
    (h2 : ∀ D ys n h' tk, Fr h₀ L h' m → News h₀ L h' ((D, listOf ys.toArray n) :: news) → (∀ p ∈ news, p.1 ≠ D) → TextsAre ys ((l.map fun c => [c]).filter pz) → Q (.ref D) { s with heap := h', toks := tk })
    (ht : TestOn prog w A env scope x ct pz) (hh : A.handled = none := by rfl) (hd : (x == ("__debug__" : Str)) = false := by decide)
    (hfree : ∀ y ∈ scope.names, y.2 ≠ .free := by decide) (hcell : ∀ y ∈ scope.names, y.2 ≠ .cell := by decide) (hkind : scope.kind = .function := by rfl)
    (hnames : ∀ y ∈ scope.names, y.2 = .local → scope.names.lookup y.1 = some .local := by decide) (hx : scope.names.lookup x = some .local := by rfl)
    (hs : ∀ x, foldedSetIterable iter env x = pure x := by intro _; rfl) :
    wpAny (model prog w) A (eval (.ListComp (.Name x pe) [⟨.Name x px, iter, [ct], 0⟩] scope pos) env) Q E s :=
  comp_str pz hd hh hfree hcell hkind hnames hx ht (wpAny_mono h1 (fun v s₁ ⟨h', tk', ⟨t, e1⟩, e2, F', N'⟩ => ⟨l, t, e1, hl, by rw [e2]; exact F', by rw [e2]; exact N', fun D ys n h'' tk F N o T => by subst e2; exact h2 D ys n h'' tk F N o T⟩) fun _ _ e => e) hs
theorem comp_list' {ct iter : Expr} {x : Str} {px pe : Pos} {scope : Scope} {pos : Pos} {Q : Value → Shared → Prop} (pz : Tx → Bool) {l : Addr} {vs : List Value} {rs : List Tx} {k : Nat} (hm : (l, listOf vs.toArray k) ∈ news) (hT : TextsAre vs rs) (hl : rs.length ≤ 100000)
    (_F : Fr h₀ L s.heap m) (_N : News h₀ L s.heap news)
    (h1 : wpAny (model prog w) A (eval iter env) (CutV h₀ L m news s fun v => v = .ref l) E s)
    (h2 : ∀ D ys n h' tk, Fr h₀ L h' m → News h₀ L h' ((D, listOf ys.toArray n) :: news) → (∀ p ∈ news, p.1 ≠ D) → TextsAre ys (rs.filter pz) → Q (.ref D) { s with heap := h', toks := tk })
    (ht : TestOn prog w A env scope x ct pz) (hh : A.handled = none := by rfl) (hd : (x == ("__debug__" : Str)) = false := by decide)
    (hfree : ∀ y ∈ scope.names, y.2 ≠ .free := by decide) (hcell : ∀ y ∈ scope.names, y.2 ≠ .cell := by decide) (hkind : scope.kind = .function := by rfl)
    (hnames : ∀ y ∈ scope.names, y.2 = .local → scope.names.lookup y.1 = some .local := by decide) (hx : scope.names.lookup x = some .local := by rfl)
    (hs : ∀ x, foldedSetIterable iter env x = pure x := by intro _; rfl) :
    wpAny (model prog w) A (eval (.ListComp (.Name x pe) [⟨.Name x px, iter, [ct], 0⟩] scope pos) env) Q E s :=
  comp_list pz hd hh hfree hcell hkind hnames hx ht (wpAny_mono h1 (fun v s₁ ⟨h', tk', e1, e2, F', N'⟩ => ⟨l, vs, rs, k, e1, hm, hT, hl, by rw [e2]; exact F', by rw [e2]; exact N', fun D ys n h'' tk F N o T => by subst e2; exact h2 D ys n h'' tk F N o T⟩) fun _ _ e => e) hs
theorem comp_strA' {ct iter : Expr} {x y : Str} {px pe py : Pos} {scope : Scope} {pos spos : Pos} {Q : Flow → Shared → Prop} (pz : Tx → Bool) (l : Tx) (hl : l.length ≤ 100000)
    (_F : Fr h₀ L s.heap m) (_N : News h₀ L s.heap news)
    (h1 : wpAny (model prog w) A (eval iter env) (CutV h₀ L m news s fun v => ∃ t, v = .str (S l) t) E s)
    (h2 : ∀ D ys n h' tk, Fr h₀ L h' (fun z => if z = y then some (.ref D) else m z) → News h₀ L h' ((D, listOf ys.toArray n) :: news) → (∀ p ∈ news, p.1 ≠ D) → TextsAre ys ((l.map fun c => [c]).filter pz) → Q .next { s with heap := h', toks := tk })
    (ht : TestOn prog w A env scope x ct pz) (hLe : env.locals = L := by rfl) (hh : A.handled = none := by rfl) (hd : (x == ("__debug__" : Str)) = false := by decide)
    (hsw : swapsWith (.ListComp (.Name x pe) [⟨.Name x px, iter, [ct], 0⟩] scope pos) (some (.Name y py)) spos.line env = pure true := by with_unfolding_all rfl)
    (hfree : ∀ y ∈ scope.names, y.2 ≠ .free := by decide) (hcell : ∀ y ∈ scope.names, y.2 ≠ .cell := by decide) (hkind : scope.kind = .function := by rfl)
    (hnames : ∀ y ∈ scope.names, y.2 = .local → scope.names.lookup y.1 = some .local := by decide) (hx : scope.names.lookup x = some .local := by rfl)
    (hy : env.kindOf y = some .local := by rfl) (hp : (env.scope.kind == .class || (env.scope.kind == .module && env.locals != env.globals)) = false := by rfl)
    (hs : ∀ x, foldedSetIterable iter env x = pure x := by intro _; rfl) :
    wpAny (model prog w) A (exec (.Assign [.Name y py] (.ListComp (.Name x pe) [⟨.Name x px, iter, [ct], 0⟩] scope pos) spos) env) Q E s :=
  comp_strA pz hLe hd hh hsw hfree hcell hkind hnames hx hy hp ht (wpAny_mono h1 (fun v s₁ ⟨h', tk', ⟨t, e1⟩, e2, F', N'⟩ => ⟨l, t, e1, hl, by rw [e2]; exact F', by rw [e2]; exact N', fun D ys n h'' tk F N o T => by subst e2; exact h2 D ys n h'' tk F N o T⟩) fun _ _ e => e) hs
/-- the two tests -/
theorem test_sp {scope : Scope} {x : Str} {p1 p2 p3 : Pos} {kk : Nat} (hd : (x == ("__debug__" : Str)) = false) (hk : scope.kind = .function) (hx : scope.names.lookup x = some .local) :
    TestOn prog w A env scope x (.Compare (.Name x p1) [.NotEq] [.Constant (.str (Str.ofString " ")) kk p2] p3) (fun r => r != [32]) := by
  intro C r u s₃ m₃ E' hn hm
  refine wpAny_isTrue_Compare1 (wpAny_Name (wpAny_loadName_local (env := compEnv scope C env) hk hx hn hm (wpAny_Constant_str (P.ne_str (wpAny_truthy_bool ⟨?_, _, rfl⟩)))) hd)
  rw [lit_sp]
  rfl
theorem test_dig {scope : Scope} {x : Str} {p1 p2 p3 : Pos} {kk : Nat} (hd : (x == ("__debug__" : Str)) = false) (hk : scope.kind = .function) (hx : scope.names.lookup x = some .local) :
    TestOn prog w A env scope x (.Compare (.Name x p1) [.NotIn] [.Constant (.str (Str.ofString "0123456789")) kk p2] p3) (fun r => (Builtin.Str.occurrences (Str.ofString "0123456789") (S r) 0 (Str.ofString "0123456789").length 1).isEmpty) := by
  intro C r u s₃ m₃ E' hn hm
  refine wpAny_isTrue_Compare1 (wpAny_Name (wpAny_loadName_local (env := compEnv scope C env) hk hx hn hm (wpAny_Constant_str (P.notIn_str (wpAny_truthy_bool ⟨?_, _, rfl⟩)))) hd)
  simp
theorem filt_sp (l : Tx) : (l.map fun c => ([c] : Tx)).filter (fun r => r != [32]) = (nb l).map fun c => [c] := by
  unfold nb
  induction l with
  | nil => rfl
  | cons c r ih =>
    simp only [List.map_cons, List.filter_cons, ih]
    by_cases h : c = 32 <;> simp [h]
theorem filt_dig (l : Tx) : ((l.map fun c => ([c] : Tx)).filter (fun r => (Builtin.Str.occurrences (Str.ofString "0123456789") (S r) 0 (Str.ofString "0123456789").length 1).isEmpty)).isEmpty = l.all isDig := by
  induction l with
  | nil => rfl
  | cons c r ih =>
    simp only [List.map_cons, List.filter_cons, occ_one, lit_digs, List.all_cons, ← ih]
    by_cases h : isDig c = true
    · have : decide (c ∈ [48, 49, 50, 51, 52, 53, 54, 55, 56, 57]) = true := by
        unfold isDig at h
        simp at h ⊢
        omega
      rw [this, h]
      simp
    · have : decide (c ∈ [48, 49, 50, 51, 52, 53, 54, 55, 56, 57]) = false := by
        unfold isDig at h
        simp at h ⊢
        omega
      rw [this]
      simp [h]
end
end
theorem flush_CP1 {prog : Program} {w : World} {A : Around} {env : Env} {Q : Flow → Shared → Prop} {E : Value → Shared → Prop} {s : Shared} (h : wpAny (model prog w) A (execs [] env) Q E s) : wpAny (model prog w) A (execs [] env) Q E s := by
  w_top off
  first | (walk1; fail) | exact h
section
noncomputable def joinL (sp : Tx) : List Tx → Tx
  | [] => []
  | [x] => x
  | x :: y :: r => x ++ sp ++ joinL sp (y :: r)
theorem joinL_nil : ∀ rs : List Tx, joinL [] rs = rs.flatten
  | [] => rfl
  | [x] => by simp [joinL]
  | x :: y :: r => by simp [joinL, joinL_nil (y :: r)]
theorem join_S (sp : Tx) : ∀ rs : List Tx, Str.join (S sp) (rs.map S) = S (joinL sp rs)
  | [] => rfl
  | [x] => rfl
  | x :: y :: r => by
    show S x ++ S sp ++ Str.join (S sp) ((y :: r).map S) = _
    rw [join_S sp (y :: r), S_app, S_app]
    rfl
theorem TextsAre.strs {vs : List Value} {rs : List Tx} (h : TextsAre vs rs) : StrsAre vs (rs.map S) := by
  induction h with
  | nil => exact .nil
  | cons r t _ ih => exact .cons (S r) t ih
theorem sum_le {rs : List Tx} {k : Nat} (h : ∀ r ∈ rs, r.length ≤ k) : (rs.map fun r => r.length).sum ≤ rs.length * k := by
  induction rs with
  | nil => exact Nat.zero_le _
  | cons r rs ih =>
    have h1 := h r (.head _)
    have h2 := ih fun q hq => h q (.tail _ hq)
    simp only [List.map_cons, List.sum_cons, List.length_cons, Nat.succ_mul]
    omega
theorem joinL_len (sp : Tx) : ∀ rs : List Tx, (joinL sp rs).length ≤ (rs.map fun r => r.length).sum + rs.length * sp.length
  | [] => Nat.zero_le _
  | [x] => by simp [joinL]
  | x :: y :: r => by
    have := joinL_len sp (y :: r)
    simp only [joinL, List.length_append, List.map_cons, List.sum_cons, List.length_cons, Nat.succ_mul] at this ⊢
    omega
theorem joinL_ok {sp : Tx} (hs : okT sp) : ∀ {rs : List Tx}, (∀ r ∈ rs, okT r) → okT (joinL sp rs)
  | [], _ => fun _ h => nomatch h
  | [x], h => h x (.head _)
  | x :: y :: r, h => ((h x (.head _)).app hs).app (joinL_ok hs fun q hq => h q (.tail _ hq))
section
variable {prog : Program} {w : World} {A : Around} {E : Value → Shared → Prop} {s : Shared} {h₀ : Heap} {L D : Addr} {news : List (Addr × Obj)} {ys : List Value} {rs : List Tx} {n : Nat} {t : Tok} {Q : Value → Shared → Prop}
theorem join_T {sp : Tx} {x : Str} (hx : x = S sp) (N : News h₀ L s.heap news) (hm : (D, listOf ys.toArray n) ∈ news) (hT : TextsAre ys rs) (hr : ∀ r ∈ rs, r.length ≤ 1000) (hl : rs.length ≤ 2000) (hsp : sp.length ≤ 10)
    (h : ∀ t' k, Q (.str (S (joinL sp rs)) t') { s with toks := k }) : wpAny (model prog w) A (call (.builtin "str.join") [.str x t, .ref D]) Q E s := by
  subst hx
  refine join_list (ys := rs.map S) (isList_news N hm) (by simpa using hT.strs) ?_ fun t' k => ?_
  · have h1 := sum_le hr
    have e : (rs.map S).map (·.length) = rs.map fun r => r.length := by
      rw [List.map_map]
      exact List.map_congr_left fun r _ => S_len r
    rw [e, List.length_map, S_len]
    have h2 : rs.length * 1000 ≤ 2000 * 1000 := Nat.mul_le_mul_right _ hl
    have h3 : rs.length * sp.length ≤ 2000 * 10 := Nat.mul_le_mul hl hsp
    omega
  · show Q (.str (Builtin.Str.glued (S sp) (rs.map S)) t') _
    rw [StrLaws.glued_eq_join, join_S]
    exact h t' k
end
end
theorem flush_JN {prog : Program} {w : World} {A : Around} {env : Env} {Q : Flow → Shared → Prop} {E : Value → Shared → Prop} {s : Shared} (h : wpAny (model prog w) A (execs [] env) Q E s) : wpAny (model prog w) A (execs [] env) Q E s := by
  w_top off
  first | (walk1; fail) | exact h
section
section
variable {prog : Program} {w : World} {A : Around} {E : Value → Shared → Prop} {s : Shared} {h₀ : Heap} {L l b : Addr} {m : Str → Option Value} {news : List (Addr × Obj)} {value slice : PySem.Expr} {ps vs ws : List Value} {n k : Nat} {Q : Value → Shared → Prop} {t u : Tok}
theorem pick_mid {x y : Value} (hp : ps ≠ []) : (slicePick (x :: y :: ps).toArray (some 2) (some (-1)) none).toList = ps.dropLast := by
  rw [slicePick_plain]
  have hl : 0 < ps.length := List.length_pos_iff.mpr hp
  have e1 : (some (2 : Int)).elim 0 (clipAt (x :: y :: ps).toArray.size) = 2 := by
    simp [clipAt]
    omega
  have e2 : (some (-1 : Int)).elim (x :: y :: ps).toArray.size (clipAt (x :: y :: ps).toArray.size) = ps.length + 1 := by
    simp [clipAt]
    omega
  rw [e1, e2]
  show (ps.take (ps.length + 1 - 2)) = _
  rw [List.dropLast_eq_take]
  rfl
theorem pick_from2 {l : List Value} : (slicePick l.toArray (some 2) none none).toList = l.drop 2 := by
  rw [show (some (2 : Int)) = some ((2 : Nat) : Int) from rfl, slicePick_from' l.toArray 2]
theorem slice_mid {x y : Value} (F : Fr h₀ L s.heap m) (N : News h₀ L s.heap news) (hm : (l, listOf (x :: y :: ps).toArray n) ∈ news) (hp : ps ≠ []) (hl : ps.length ≤ 2000)
    (h : ∀ D h', Fr h₀ L h' m → News h₀ L h' ((D, listOf ps.dropLast.toArray 0) :: news) → (∀ p ∈ news, p.1 < D) → Q (.ref D) { s with heap := h' })
    (hs : subscripted slice false (.ref l) (.ref s.heap.objs.size) = operate [.ref s.heap.objs.size, .ref l] (getItem (.ref l) (.ref s.heap.objs.size)) := by with_unfolding_all rfl) (ht : ∀ r, letTemporaryGo value (.ref l) r = pure () := by intro _; with_unfolding_all rfl) :
    wpAny (model prog w) A (subscriptTail value slice (.ref l) (.ref s.heap.objs.size)) Q E { s with heap := s.heap.push { cls := .type "slice", data := .fields #[.int 2 t, .int (-1) u, .none] } } :=
  kmk_slice_lit F N (isList_news N hm) (.int _ _) (.int _ _) (pick_mid hp) h hs ht (by rw [List.size_toArray, sizeLine_eq]; simp only [List.length_cons]; omega)
theorem slice_from2 (F : Fr h₀ L s.heap m) (N : News h₀ L s.heap news) (hm : (l, listOf vs.toArray n) ∈ news) (hl : vs.length ≤ 2000)
    (h : ∀ D h', Fr h₀ L h' m → News h₀ L h' ((D, listOf (vs.drop 2).toArray 0) :: news) → (∀ p ∈ news, p.1 < D) → Q (.ref D) { s with heap := h' })
    (hs : subscripted slice false (.ref l) (.ref s.heap.objs.size) = operate [.ref s.heap.objs.size, .ref l] (getItem (.ref l) (.ref s.heap.objs.size)) := by with_unfolding_all rfl) (ht : ∀ r, letTemporaryGo value (.ref l) r = pure () := by intro _; with_unfolding_all rfl) :
    wpAny (model prog w) A (subscriptTail value slice (.ref l) (.ref s.heap.objs.size)) Q E { s with heap := s.heap.push { cls := .type "slice", data := .fields #[.int 2 t, .none, .none] } } :=
  kmk_slice_lit F N (isList_news N hm) (.int _ _) .none pick_from2 h hs ht (by rw [List.size_toArray, sizeLine_eq]; omega)
theorem item_last {v : Value} (N : News h₀ L s.heap news) (hm : (l, listOf (vs ++ [v]).toArray n) ∈ news) (hl : vs.length ≤ 100000) (h : Q v s)
    (hs : subscripted slice false (.ref l) (.int (-1) u) = operate [.ref l, .int (-1) u] (getItem (.ref l) (.int (-1) u)) := by with_unfolding_all rfl) :
    wpAny (model prog w) A (subscriptTail value slice (.ref l) (.int (-1) u)) Q E s :=
  tail_any (isList_news N hm).typeIs slot_list_getitem.lookup (wpAny_getItem_list_neg (isList_news N hm) (by decide) (by simp; omega) (by decide) (by simp [show ((-1 : Int) + ((vs.length : Int) + 1)).toNat = vs.length from by omega]) h) hs
theorem add_K (F : Fr h₀ L s.heap m) (N : News h₀ L s.heap news) (ha : (l, listOf vs.toArray n) ∈ news) (hb : (b, listOf ws.toArray k) ∈ news) (hz : vs.length + ws.length ≤ 100000)
    (h : ∀ D h', Fr h₀ L h' m → News h₀ L h' ((D, listOf (vs ++ ws).toArray 0) :: news) → (∀ p ∈ news, p.1 < D) → Q (.ref D) { s with heap := h' }) : wpAny (model prog w) A (binaryOp .Add (.ref l) (.ref b)) Q E s :=
  add_lists F N (isList_news N ha) (isList_news N hb) (fun h' F' N' => h _ h' F' N' fun p hp => Heap.lt_size (N p hp).1) (by rw [sizeLine_eq]; omega)
end
end
theorem flush_RL {prog : Program} {w : World} {A : Around} {env : Env} {Q : Flow → Shared → Prop} {E : Value → Shared → Prop} {s : Shared} (h : wpAny (model prog w) A (execs [] env) Q E s) : wpAny (model prog w) A (execs [] env) Q E s := by
  w_top off
  first | (walk1; fail) | exact h
section
section
variable {prog : Program} {w : World} {A : Around} {E : Value → Shared → Prop} {s : Shared} {h₀ : Heap} {L : Addr} {m : Str → Option Value} {news : List (Addr × Obj)} {env : Env}
/-- a comprehension of one clause without a test, over a list that the iterable lays on the ledger -/
theorem comp_rel {elt iter : PySem.Expr} {x : Str} {px : Pos} {scope : Scope} {cl : List (Str × Addr)} {pos : Pos} {Q : Value → Shared → Prop} (R : Value → Value → Prop) (vs : List Value) (hsz : vs.length ≤ 100000) (F₀ : Fr h₀ L s.heap m) (_N : News h₀ L s.heap news)
    (h1 : wpAny (model prog w) A (eval iter env) (fun xv s₁ => ∃ l k h' tk', xv = .ref l ∧ s₁ = { s with heap := h', toks := tk' } ∧ Fr h₀ L h' m ∧ News h₀ L h' ((l, listOf vs.toArray k) :: news) ∧ (∀ p ∈ news, p.1 ≠ l)) E s)
    (turn : ∀ l k v I oI C oC D m₂ ys h tk (E' : Value → Shared → Prop), v ∈ vs → LCg.NsObj oC m₂ → m₂ x = some v → Fr h₀ L h m → News h₀ L h ((I, oI) :: (C, oC) :: (D, LCg.lst ys) :: (l, listOf vs.toArray k) :: news) →
      wpAny (model prog w) A (eval elt (compEnvC scope cl C env)) (CutV h₀ L m ((I, oI) :: (C, oC) :: (D, LCg.lst ys) :: (l, listOf vs.toArray k) :: news) { s with heap := h, toks := tk } (fun y => R v y)) E' { s with heap := h, toks := tk })
    (h2 : ∀ D ys n h' tk, Fr h₀ L h' m → News h₀ L h' ((D, listOf ys.toArray n) :: news) → (∀ p ∈ news, p.1 ≠ D) → Paired R vs ys → Q (.ref D) { s with heap := h', toks := tk })
    (hclos : closureFor scope env = pure cl) (hh : A.handled = none := by rfl) (hcell : ∀ y ∈ scope.names, y.2 ≠ .cell := by decide) (hkind : scope.kind = .function := by rfl)
    (hnames : ∀ y ∈ scope.names, y.2 = .local → scope.names.lookup y.1 = some .local := by decide) (hx : scope.names.lookup x = some .local := by rfl)
    (hs : ∀ x, foldedSetIterable iter env x = pure x := by intro _; rfl) :
    wpAny (model prog w) A (eval (.ListComp elt [⟨.Name x px, iter, [], 0⟩] scope pos) env) Q E s := by
  refine LCg.ListComp_U F₀ hclos hcell hkind hnames hx (wpAny_mono h1 (fun xv s₁ h₁ => ?_) fun _ _ e => e) hs
  obtain ⟨l, k, h', tk', rfl, rfl, F', N', ho⟩ := h₁
  refine LCg.CompSrc.ledger hh F' N' (.head _) (by rw [sizeLine_eq, List.size_toArray]; omega) fun g => ?_
  have key : ∀ (j i : Nat) (ys : List Value), i + j = vs.length → Paired R (vs.take i) ys →
      LCg.CompRest prog w A h₀ L m env elt x scope cl { s with heap := g, toks := tk' } (LCg.SrcAt h₀ l vs.toArray) (fun i v => vs.toArray[i]? = some v) (LCg.FinE h₀ L m { s with heap := g, toks := tk' } Q) j i ys ((l, listOf vs.toArray k) :: news) := by
    intro j
    induction j with
    | zero =>
      intro i ys hi hP
      refine LCg.CompRest.zero ?_
      intro D h tk F N off
      have hi' : i = vs.length := by omega
      rw [hi', List.take_length] at hP
      exact h2 D ys ys.length h tk F (fun p hp => N p (by rcases List.mem_cons.mp hp with rfl | hp; exact .head _; exact .tail _ (.tail _ hp))) (fun p hp => by
        have : ∀ {q : List (Addr × Obj)}, LCg.Off1 D q → ∀ p ∈ q, p.1 ≠ D := by
          intro q
          induction q with
          | nil => intro _ p hp; cases hp
          | cons a r ih =>
            intro hq p hp
            rcases List.mem_cons.mp hp with rfl | hp
            · exact hq.1
            · exact ih hq.2 p hp
        exact this off p (.tail _ hp)) hP
    | succ j ih =>
      intro i ys hi hP
      refine LCg.CompRest.succ ?_
      intro v I oI C oC D m₂ h tk E' hv hC hx F N off ne
      have hv' : vs[i]? = some v := by simpa using hv
      refine wpAny_mono (turn l k v I oI C oC D m₂ ys h tk E' (List.mem_of_getElem? hv') hC hx F N) (fun y s₂ hq => ?_) fun _ _ e => e
      obtain ⟨h'', tk'', hR, e, F2, N2⟩ := hq
      refine ⟨h'', tk'', (l, listOf vs.toArray k) :: news, e, F2, N2, off, .inr ⟨_, .head _, rfl, _, rfl⟩, ?_⟩
      refine ih (i + 1) _ (by omega) ?_
      rw [List.take_add_one, hv']
      exact hP.snoc hR
  rw [List.size_toArray]
  exact key vs.length 0 [] (by omega) (by simp only [List.take_zero]; exact .nil)
theorem comp_relA {elt iter : PySem.Expr} {x y : Str} {px py : Pos} {scope : Scope} {cl : List (Str × Addr)} {pos spos : Pos} {Q : Flow → Shared → Prop} (R : Value → Value → Prop) (vs : List Value) (hsz : vs.length ≤ 100000) (F₀ : Fr h₀ L s.heap m) (_N : News h₀ L s.heap news)
    (h1 : wpAny (model prog w) A (eval iter env) (fun xv s₁ => ∃ l k h' tk', xv = .ref l ∧ s₁ = { s with heap := h', toks := tk' } ∧ Fr h₀ L h' m ∧ News h₀ L h' ((l, listOf vs.toArray k) :: news) ∧ (∀ p ∈ news, p.1 ≠ l)) E s)
    (turn : ∀ l k v I oI C oC D m₂ ys h tk (E' : Value → Shared → Prop), v ∈ vs → LCg.NsObj oC m₂ → m₂ x = some v → Fr h₀ L h m → News h₀ L h ((I, oI) :: (C, oC) :: (D, LCg.lst ys) :: (l, listOf vs.toArray k) :: news) →
      wpAny (model prog w) A (eval elt (compEnvC scope cl C env)) (CutV h₀ L m ((I, oI) :: (C, oC) :: (D, LCg.lst ys) :: (l, listOf vs.toArray k) :: news) { s with heap := h, toks := tk } (fun z => R v z)) E' { s with heap := h, toks := tk })
    (h2 : ∀ D ys n h' tk, Fr h₀ L h' (fun z => if z = y then some (.ref D) else m z) → News h₀ L h' ((D, listOf ys.toArray n) :: news) → (∀ p ∈ news, p.1 ≠ D) → Paired R vs ys → Q .next { s with heap := h', toks := tk })
    (hclos : closureFor scope env = pure cl) (hLe : env.locals = L := by rfl)
    (hsw : swapsWith (.ListComp elt [⟨.Name x px, iter, [], 0⟩] scope pos) (some (.Name y py)) spos.line env = pure true := by with_unfolding_all rfl) (hy : env.kindOf y = some .local := by rfl) (hp : (env.scope.kind == .class || (env.scope.kind == .module && env.locals != env.globals)) = false := by rfl) (hh : A.handled = none := by rfl) (hcell : ∀ y ∈ scope.names, y.2 ≠ .cell := by decide) (hkind : scope.kind = .function := by rfl)
    (hnames : ∀ y ∈ scope.names, y.2 = .local → scope.names.lookup y.1 = some .local := by decide) (hx : scope.names.lookup x = some .local := by rfl)
    (hs : ∀ x, foldedSetIterable iter env x = pure x := by intro _; rfl) :
    wpAny (model prog w) A (exec (.Assign [.Name y py] (.ListComp elt [⟨.Name x px, iter, [], 0⟩] scope pos) spos) env) Q E s := by
  refine LCg.Assign_ListComp_U F₀ hLe hsw hclos hcell hkind hnames hx hy hp (wpAny_mono h1 (fun xv s₁ h₁ => ?_) fun _ _ e => e) hs
  obtain ⟨l, k, h', tk', rfl, rfl, F', N', ho⟩ := h₁
  refine LCg.CompSrc.ledger hh F' N' (.head _) (by rw [sizeLine_eq, List.size_toArray]; omega) fun g => ?_
  have key : ∀ (j i : Nat) (ys : List Value), i + j = vs.length → Paired R (vs.take i) ys →
      LCg.CompRest prog w A h₀ L m env elt x scope cl { s with heap := g, toks := tk' } (LCg.SrcAt h₀ l vs.toArray) (fun i v => vs.toArray[i]? = some v) (LCg.FinA h₀ L m { s with heap := g, toks := tk' } y Q) j i ys ((l, listOf vs.toArray k) :: news) := by
    intro j
    induction j with
    | zero =>
      intro i ys hi hP
      refine LCg.CompRest.zero ?_
      intro D h tk F N off
      have hi' : i = vs.length := by omega
      rw [hi', List.take_length] at hP
      exact h2 D ys ys.length h tk F (fun p hp => N p (by rcases List.mem_cons.mp hp with rfl | hp; exact .head _; exact .tail _ (.tail _ hp))) (fun p hp => by
        have : ∀ {q : List (Addr × Obj)}, LCg.Off1 D q → ∀ p ∈ q, p.1 ≠ D := by
          intro q
          induction q with
          | nil => intro _ p hp; cases hp
          | cons a r ih =>
            intro hq p hp
            rcases List.mem_cons.mp hp with rfl | hp
            · exact hq.1
            · exact ih hq.2 p hp
        exact this off p (.tail _ hp)) hP
    | succ j ih =>
      intro i ys hi hP
      refine LCg.CompRest.succ ?_
      intro v I oI C oC D m₂ h tk E' hv hC hx F N off ne
      have hv' : vs[i]? = some v := by simpa using hv
      refine wpAny_mono (turn l k v I oI C oC D m₂ ys h tk E' (List.mem_of_getElem? hv') hC hx F N) (fun z s₂ hq => ?_) fun _ _ e => e
      obtain ⟨h'', tk'', hR, e, F2, N2⟩ := hq
      refine ⟨h'', tk'', (l, listOf vs.toArray k) :: news, e, F2, N2, off, .inr ⟨_, .head _, rfl, _, rfl⟩, ?_⟩
      refine ih (i + 1) _ (by omega) ?_
      rw [List.take_add_one, hv']
      exact hP.snoc hR
  rw [List.size_toArray]
  exact key vs.length 0 [] (by omega) (by simp only [List.take_zero]; exact .nil)
/-- texts made of texts -/
theorem paired_texts {g : Tx → Tx} {vs ys : List Value} {rs : List Tx} (hT : TextsAre vs rs) (h : Paired (fun v y => ∀ r t, v = .str (S r) t → ∃ t', y = .str (S (g r)) t') vs ys) : TextsAre ys (rs.map g) := by
  induction hT generalizing ys with
  | nil => cases h; exact .nil
  | cons r t _ ih =>
    cases h with
    | cons h1 h2 =>
      obtain ⟨t', rfl⟩ := h1 r t rfl
      exact .cons _ _ (ih h2)
end
end
theorem flush_CM {prog : Program} {w : World} {A : Around} {env : Env} {Q : Flow → Shared → Prop} {E : Value → Shared → Prop} {s : Shared} (h : wpAny (model prog w) A (execs [] env) Q E s) : wpAny (model prog w) A (execs [] env) Q E s := by
  w_top off
  first | (walk1; fail) | exact h
section
local macro_rules | `(tactic| walk_at "exec If") => `(tactic| (k_here; refine Stop.out ?_))
local macro_rules | `(tactic| walk_at "compareOp NotEq ref ref") => `(tactic| (k_here; refine Stop.out ?_))
local macro_rules | `(tactic| walk_at "compareOp Eq ref ref") => `(tactic| (k_here; refine Stop.out ?_))
local macro_rules | `(tactic| walk_at "eval ListComp") => `(tactic| (k_here; refine Stop.out ?_))
local macro_rules | `(tactic| walk_at "exec Assign cons ListComp") => `(tactic| (k_here; refine Stop.out ?_))
local macro_rules | `(tactic| walk_at "exec Assign cons BinOp") => `(tactic| (k_here; refine Stop.out ?_))
local macro_rules | `(tactic| walk_at "call builtin:str.join") => `(tactic| (k_here; refine Stop.out ?_))
local macro_rules | `(tactic| walk_at "call type:int") => `(tactic| (k_here; refine Stop.out ?_))
local macro_rules | `(tactic| walk_at "binaryOp Add ref ref") => `(tactic| (k_here; refine Stop.out ?_))
local macro_rules | `(tactic| walk_at "subscriptTail Name Slice ref ref") => `(tactic| (k_here; refine Stop.out ?_))
local macro_rules | `(tactic| walk_at "subscriptTail Name UnaryOp ref int") => `(tactic| (k_here; refine Stop.out ?_))
local macro_rules | `(tactic| walk_at "subscriptTail Name Constant ref int") => `(tactic| (k_here; (with_reducible show wpAny _ _ (subscriptTail _ _ (Value.ref _) (Value.int _ _)) _ _ _); k_dflt (first | (refine' item_newsN (i := 0) ?N ?hm ?hx ?hk ?hi ?_; (case hk => exact rfl); (case N => k_asm); (case hm => k_mem); (case hx => exact rfl); (case hi => decide); k_whole) | (refine' item_newsN (i := 1) ?N ?hm ?hx ?hk ?hi ?_; (case hk => exact rfl); (case N => k_asm); (case hm => k_mem); (case hx => exact rfl); (case hi => decide); k_whole) | (refine' item_newsN (i := 2) ?N ?hm ?hx ?hk ?hi ?_; (case hk => exact rfl); (case N => k_asm); (case hm => k_mem); (case hx => exact rfl); (case hi => decide); k_whole))))
local macro_rules | `(tactic| walk_at "eval IfExp") => `(tactic| (k_here; refine Stop.out ?_))
/-- the values bear what is held -/
def HeldAt (hv : List Value) : Option Held → Prop
  | none => hv = []
  | some h => ∃ t1 t2 ps, hv = .int h.line t1 :: .int h.lab t2 :: ps ∧ TextsAre ps h.parts
def HeldOk (w : Nat) (i : Nat) : Option Held → Prop
  | none => True
  | some h => h.parts ≠ [] ∧ h.parts.length ≤ i ∧ ∀ p ∈ h.parts, p.length ≤ w ∧ okT p
theorem HeldOk.up {w i : Nat} {hd : Option Held} (h : HeldOk w i hd) : HeldOk w (i + 1) hd := by
  cases hd with
  | none => trivial
  | some x => exact ⟨h.1, Nat.le_trans h.2.1 (Nat.le_succ _), h.2.2⟩
theorem lawGo_at {n w : Nat} {most : Int} {all : List Tx} {i : Nat} {row : Tx} {st : List Stm} {hd : Option Held} {ct : Int} (hr : all[i]? = some row) :
    lawGo n w most (all.drop i) i st hd ct = match lawTurn n w most i row st hd ct with
      | .go st' hd' ct' => lawGo n w most (all.drop (i + 1)) (i + 1) st' hd' ct'
      | .err e => .error e
      | .out st' => .ok st' := by
  obtain ⟨hi, e⟩ := List.getElem?_eq_some_iff.mp hr
  rw [List.drop_eq_getElem_cons hi, e]
  rfl
structure LS2 where
  fv : List Value
  fn : Nat
  st : List Stm
  lh : Addr
  hv : List Value
  hn : Nat
  hd : Option Held
  ct : Int
  tk : Tok
/-- what the flush of the held rows leaves -/
def FlushPost (h₀ : Heap) (L : Addr) (m : Str → Option Value) (w : Nat) (lf : Addr) (c : LS2) (tl rest news : List (Addr × Obj)) (s : Shared) (f : Flow) (s' : Shared) : Prop :=
  (∃ v t h' tk' m', f = .ret (.int v t) ∧ s' = { s with heap := h', toks := tk' } ∧ lawFlush w c.st c.hd = .error v ∧ Fr h₀ L h' m' ∧ News h₀ L h' rest) ∨
  (f = .next ∧ ∃ (add : List (Addr × Obj)) (fv : List Value) (fn : Nat) (st : List Stm) (u : Str → Option Value) (h' : Heap) (tk' : Nat), s' = { s with heap := h', toks := tk' } ∧ lawFlush w c.st c.hd = .ok st ∧ Fr h₀ L h' (fun y => if y = Str.ofString "whole" then u y else m y) ∧
    News h₀ L h' ((c.lh, listOf c.hv.toArray c.hn) :: (lf, listOf fv.toArray fn) :: (add ++ rest)) ∧ StmsAt (add ++ tl) fv st ∧ Above add news ∧ Off rest add ∧ Off add [(c.lh, listOf c.hv.toArray c.hn), (lf, listOf fv.toArray fn)] ∧ fv.length ≤ c.fv.length + 1)
section
variable {M : Model} {A : Around} {E : Value → Shared → Prop} {s : Shared} {h₀ : Heap} {L lf : Addr} {m : Str → Option Value} {tl rest news : List (Addr × Obj)} {w : Nat} {c : LS2}
theorem FlushPost.err {v : Int} {t : Tok} {h' : Heap} {tk' : Nat} {m' : Str → Option Value} {news' : List (Addr × Obj)} (e : lawFlush w c.st c.hd = .error v) (F : Fr h₀ L h' m') (N : News h₀ L h' news') (hs : ∀ p ∈ rest, p ∈ news') :
    FlushPost h₀ L m w lf c tl rest news s (.ret (.int v t)) { s with heap := h', toks := tk' } := Or.inl ⟨v, t, h', tk', m', rfl, rfl, e, F, fun p hp => N p (hs p hp)⟩
theorem FlushPost.keep {h' : Heap} {tk' : Nat} (hc : c.hd = none) (hS : StmsAt tl c.fv c.st) (F : Fr h₀ L h' m) (N : News h₀ L h' ((c.lh, listOf c.hv.toArray c.hn) :: (lf, listOf c.fv.toArray c.fn) :: rest)) :
    FlushPost h₀ L m w lf c tl rest news s .next { s with heap := h', toks := tk' } := by
  refine Or.inr ⟨rfl, [], c.fv, c.fn, c.st, m, h', tk', rfl, by rw [hc]; rfl, ?_, N, hS, Above.nil, Off.nil, (fun _ h => nomatch h), Nat.le_succ _⟩
  have e : (fun y => if y = Str.ofString "whole" then m y else m y) = m := by
    funext y
    split <;> rfl
  rw [e]
  exact F
theorem FlushPost.more {h' : Heap} {tk' : Nat} {d : Addr} {o : Obj} {fv : List Value} {fn : Nat} {st : List Stm} {u : Str → Option Value} (e : lawFlush w c.st c.hd = .ok st) (F : Fr h₀ L h' (fun y => if y = Str.ofString "whole" then u y else m y))
    (N : News h₀ L h' ((d, o) :: (c.lh, listOf c.hv.toArray c.hn) :: (lf, listOf fv.toArray fn) :: rest)) (hS : StmsAt ((d, o) :: tl) fv st) (h1 : ∀ p ∈ rest, p.1 < d) (h2 : ∀ p ∈ news, p ∈ rest) (h3 : @LT.lt Nat _ c.lh d) (h4 : @LT.lt Nat _ lf d) (h5 : fv.length ≤ c.fv.length + 1) :
    FlushPost h₀ L m w lf c tl rest news s .next { s with heap := h', toks := tk' } := by
  refine Or.inr ⟨rfl, [(d, o)], fv, fn, st, u, h', tk', rfl, e, F, fun p hp => N p ?_, hS, Above.cons (fun q hq => h1 q (h2 q hq)) Above.nil, Off.one fun p hp => Nat.ne_of_lt (h1 p hp), Off.two (List.forall_mem_cons.mpr ⟨Nat.ne_of_gt h3, fun _ h => nomatch h⟩) (List.forall_mem_cons.mpr ⟨Nat.ne_of_gt h4, fun _ h => nomatch h⟩), h5⟩
  rcases List.mem_cons.mp hp with rfl | hp
  · exact .tail _ (.head _)
  · rcases List.mem_cons.mp hp with rfl | hp
    · exact .tail _ (.tail _ (.head _))
    · rcases List.mem_cons.mp hp with rfl | hp
      · exact .head _
      · exact .tail _ (.tail _ (.tail _ hp))
theorem cut_flush {x : Sem Flow} {Q : Flow → Shared → Prop} (w : Nat) (lf : Addr) (c : LS2) (tl rest news : List (Addr × Obj)) (F : Fr h₀ L s.heap m)
    (h1 : wpAny M A x (FlushPost h₀ L m w lf c tl rest news s) E s)
    (h2 : ∀ v t h' tk' m', lawFlush w c.st c.hd = .error v → Fr h₀ L h' m' → News h₀ L h' rest → Q (.ret (.int v t)) { s with heap := h', toks := tk' })
    (h3 : ∀ (add : List (Addr × Obj)) (fv : List Value) (fn : Nat) (st : List Stm) (u : Str → Option Value) (h' : Heap) (tk' : Nat), lawFlush w c.st c.hd = .ok st → Fr h₀ L h' (fun y => if y = Str.ofString "whole" then u y else m y) → News h₀ L h' ((c.lh, listOf c.hv.toArray c.hn) :: (lf, listOf fv.toArray fn) :: (add ++ rest)) → StmsAt (add ++ tl) fv st →
      Above add news → Off rest add → Off add [(c.lh, listOf c.hv.toArray c.hn), (lf, listOf fv.toArray fn)] → fv.length ≤ c.fv.length + 1 → Q .next { s with heap := h', toks := tk' }) : wpAny M A x Q E s :=
  wpAny_mono h1 (fun f s' h => by
    rcases h with ⟨v, t, h', tk', m', rfl, rfl, e, F', N'⟩ | ⟨rfl, add, fv, fn, st, u, h', tk', rfl, e, F', N', a1, a2, a3, a4, a5⟩
    · exact h2 v t h' tk' m' e F' N'
    · exact h3 add fv fn st u h' tk' e F' N' a1 a2 a3 a4 a5) fun _ _ e => e
end
theorem c_lr {w : World} {mean : ExcName → Option Value} {mg mb : Str → Option Value} {dp un : Nat} {gd : Option (List Code)} {cn : Str} {cs' : Scope} {a : Addr} {ccd : Value} {cl : List (Str × Addr)} {outer : List Env} {A₀ : Around} {base h₀ : Heap} {L : Addr} {m : Str → Option Value} {s : Shared} {Q E : Value → Shared → Prop} {news : List (Addr × Obj)} {l : Addr} {rows : List Tx} {vs : List Value} {n2 : Nat} {wd most : Int} {t2 t3 : Tok}
  (B : Below A₀ base outer h₀) (F : Fr h₀ L s.heap m) (X : (Mine.hd.heap_1 w.params).In h₀) (N : News h₀ L s.heap news) (T : Top VW LS mean mg mb h₀) (hk : cs'.kind = .function) (hd : dp + 8 < recursionLimit) (hu : un + 200 < cLine)
  (hT : TextsAre vs rows) (hl : (l, listOf vs.toArray n2) ∈ news) (hrl : rows.length ≤ 1000) (hrs : ∀ r ∈ rows, r.length ≤ 1000) (hok : ∀ r ∈ rows, okT r) (hw : 9 ≤ wd ∧ wd ≤ 14) (hm : 0 ≤ most ∧ most ≤ 3) (hretE : ∀ i, lawR rows wd.toNat most = .error i → ∀ t h' tk', Fr h₀ L h' m → News h₀ L h' news → Q (.int i t) { s with heap := h', toks := tk' })
  (hret : ∀ qs, lawR rows wd.toNat most = .ok qs → ∀ h' tk' lf fs n own, Fr h₀ L h' m → News h₀ L h' ((lf, listOf fs.toArray n) :: (own ++ news)) → Above ((lf, listOf fs.toArray n) :: own) news → StmsAt own fs qs → Q (.ref lf) { s with heap := h', toks := tk' }) :
  wpAny (model PySem.Challenge.rw_no0232_01.row.prog w) (ktrTop dp un gd cn cs' L a ccd cl outer) (call (.ref 206) [.ref l, .int wd t2, .int most t3]) Q E s := by
  revert X
  k_fill
  intro X

  have hTl := hT.length
  refine wpAny_call ?_
  k_dflt (refine' code_defC ?k1 ?k2 ?k3 ?k4 ?k5 ?kA ?kF ?kK ?k6 ?k7 ?k8 ?k9 ?kB ?kD ?_ ?c2 ?c3 ?c4; (case kA => exact rfl); (case kF => exact rfl); (case kK => assumption); (case k1 => k_asm); (case k2 => k_asm); (case k3 => k_asm); (case k4 => k_asm); (case k5 => k_asm); (case k6 => k_is); (case k7 => k_is); (case k8 => ktr_room); (case k9 => exact BindsTo.of_eq rfl); (case kB => exact rfl); (case kD => decide +kernel); (case c2 => exact rfl); (case c3 => exact rfl); (case c4 => exact rfl); k_whole)
  intro g1 L1 h1 tk1 cells FG1 F1 N1 Y1 B1 X1 T1 lc1
  obtain ⟨oc, hE, dc⟩ := CellsAre.one Y1
  subst hE
  clear Y1
  dsimp only [List.cons_append, List.nil_append] at N1
  try dsimp only
  k_fold
  k_steps
  refine Stop.go ?_
  rename Fr _ _ _ _ => F'
  rename News _ _ _ _ => N'
  rename _ ∧ _ ∧ AllLt _ _ => l3
  rename _ ∧ AllLt _ _ => l2
  rename_i lf _ _ _ lh0 _ _ _
  with_unfolding_all refine For_invVF F' (by rfl) (by rfl) ?_
  k_steps
  refine Stop.go ?_
  rename Fr _ _ _ _ => F'
  rename News _ _ _ _ => N'
  rename IsRange _ _ _ _ _ _ _ _ => hR
  have en : ((vs.length : Int) + 1) = ((rows.length + 1 : Nat) : Int) := by omega
  have hlh0 : ∀ p ∈ (L1 + 1, oc) :: news, p.1 < lh0 := List.forall_mem_cons.mpr ⟨l3.2.1, allLt_to l3.2.2⟩
  have hTg := fun (i : Nat) (hi : i < rows.length) => hT.get (List.getElem?_eq_getElem hi)
  refine' loop_range (σ := LS2) (n := rows.length + 1) (fun c => [(c.lh, listOf c.hv.toArray c.hn), (lf, listOf c.fv.toArray c.fn)]) ((L1 + 1, oc) :: news) (fun c => [(Str.ofString "held", .ref c.lh), (Str.ofString "count", .int c.ct c.tk)])
    [Str.ofString "row", Str.ofString "seen", Str.ofString "whole", Str.ofString "digits", Str.ofString "label"]
    (fun i tlc c => ∃ tl, tlc = tl ++ ((L1 + 1, oc) :: news) ∧ Above tl news ∧ StmsAt tl c.fv c.st ∧ HeldAt c.hv c.hd ∧ HeldOk wd.toNat i c.hd ∧ c.fv.length ≤ i ∧ @LT.lt Nat _ lf c.lh ∧ (∀ p ∈ (L1 + 1, oc) :: news, p.1 < c.lh) ∧ (0 ≤ c.ct ∧ c.ct ≤ i) ∧
      lawGo rows.length wd.toNat most ((rows ++ [endRow]).drop i) i c.st c.hd c.ct = lawR rows wd.toNat most)
    ⟨[], 0, [], lh0, [], 0, none, 0, _⟩ rfl hR (by rw [en]; exact range_small0 (by omega)) (by rw [en]; exact range_size0 _) F' N' (fun p hp => hp) ?po ?pk
    ⟨[], rfl, Above.nil, .nil, rfl, trivial, Nat.le_refl _, l3.1, hlh0, ⟨Int.le_refl 0, Int.le_refl 0⟩, rfl⟩ ?pt ?pd
  case po => exact Off.two (List.forall_mem_cons.mpr ⟨Nat.ne_of_lt l3.2.1, fun p hp => Nat.ne_of_lt (allLt_to l3.2.2 p hp)⟩) (List.forall_mem_cons.mpr ⟨Nat.ne_of_lt l2.1, fun p hp => Nat.ne_of_lt (allLt_to l2.2 p hp)⟩)
  case pk =>
    refine List.forall_mem_cons.mpr ⟨?_, List.forall_mem_cons.mpr ⟨?_, fun _ h => nomatch h⟩⟩
    · with_unfolding_all rfl
    · with_unfolding_all rfl
  case pt =>
    intro i c t tlc rest u h tk hi hc hs ho hP F2 N2
    obtain ⟨tl, rfl, hA, hS, hHd, hHo, hfl, hlf, hlh, hct, hgo⟩ := hP
    clear F' N'
    have hnr : ∀ p ∈ news, p ∈ rest := fun p hp => hs p (List.mem_append_right _ (.tail _ hp))
    have hcell : (L1 + 1, oc) ∈ rest := hs _ (List.mem_append_right _ (.head _))
    have hl' := hnr _ hl
    dsimp only [List.cons_append, List.nil_append] at N2
    replace F2 : Fr g1 L1 h _ := F2
    replace N2 : News g1 L1 h _ := N2
    have hwn : wd.toNat ≤ 14 ∧ 9 ≤ wd.toNat := by omega
    obtain ⟨row, hrow, hrl2, hrok⟩ : ∃ row, (rows ++ [endRow])[i]? = some row ∧ row.length ≤ 1000 ∧ okT row := by
      rcases Nat.lt_or_ge i rows.length with hi' | hi'
      · exact ⟨rows[i], by rw [List.getElem?_append_left hi', List.getElem?_eq_getElem hi'], hrs _ (List.getElem_mem _), hok _ (List.getElem_mem _)⟩
      · have e : i = rows.length := by omega
        subst e
        exact ⟨endRow, by simp, by decide, endRow_ok⟩
    have hsl : 5 < (lawSeen row wd.toNat).length := by rw [lawSeen_len _ _ (by omega)]; omega
    rw [lawGo_at hrow] at hgo
    k_steps
    refine Stop.go ?_
    refine cut_str row F2 N2 ?c1 ?c2
    case c1 =>
      refine wpAny_IfExp ?_
      rcases Nat.lt_or_ge i rows.length with hi' | hi'
      · obtain ⟨t0, ht0⟩ := hT.get (r := row) (i := i) (by rw [← List.getElem?_append_left hi']; exact hrow)
        k_steps
        all_goals exact CutV.intro ⟨_, rfl⟩ (by assumption) (by assumption) (by (intro p hp; repeat (first | exact hp | refine List.Mem.tail _ ?_)))
      · have e : i = rows.length := by omega
        have er : row = endRow := by rw [e] at hrow; simpa using hrow.symm
        rw [er, ← lit_end]
        k_steps
        all_goals exact CutV.intro ⟨_, rfl⟩ (by assumption) (by assumption) (by (intro p hp; repeat (first | exact hp | refine List.Mem.tail _ ?_)))
    case c2 =>
      intro t h' tk' F3 N3
      clear F2 N2
      k_steps
      refine Stop.go ?_
      rename Fr _ _ _ _ => F3
      rename News _ _ _ _ => N3
      refine wpAny_If (cut_bool (lawSkip row wd.toNat) F3 N3 ?c3 ?c4)
      case c3 =>
        rcases Nat.eq_zero_or_pos row.length with h0 | h0
        · have er : row = [] := List.length_eq_zero_iff.mp h0
          k_steps
          · rename (S (List.take _ row) != _) = true => hb
            rw [er] at hb
            simp [lit_nil, S_beq, bne] at hb
          all_goals (refine CutV.intro ?_ (by assumption) (by assumption) (by (intro p hp; repeat (first | exact hp | refine List.Mem.tail _ ?_))))
          all_goals exact (skip_3 (by assumption) (by assumption)).symm
        · k_steps
          all_goals (refine CutV.intro ?_ (by assumption) (by assumption) (by (intro p hp; repeat (first | exact hp | refine List.Mem.tail _ ?_))))
          all_goals first | exact (skip_1 (by assumption) (by assumption)).symm | exact (skip_2 (by assumption) (by assumption)).symm | exact (skip_3 (by assumption) (by assumption)).symm
      case c4 =>
        intro h' tk' F4 N4
        clear F3 N3
        cases hskip : lawSkip row wd.toNat with
        | true =>
          k_steps
          refine' TurnL.cont' ⟨c.fv, c.fn, c.st, c.lh, c.hv, c.hn, c.hd, c.ct, c.tk⟩ [] F4 N4 (fun p hp => hp) (Off.two (Off.head ho) (Off.head (Off.rest ho))) (fun _ h => nomatch h)
            ⟨tl, rfl, hA, hS, hHd, hHo.up, Nat.le_trans hfl (Nat.le_succ _), hlf, hlh, ⟨hct.1, Int.le_trans hct.2 (Int.ofNat_le.mpr (Nat.le_succ _))⟩, ?pg⟩ ?pk ?py
          case pg =>
            rw [← hgo]
            unfold lawTurn
            rw [if_pos hskip]
          case pk => 
            refine List.forall_mem_cons.mpr ⟨?_, List.forall_mem_cons.mpr ⟨?_, fun _ h => nomatch h⟩⟩
            · with_unfolding_all rfl
            · with_unfolding_all rfl
          case py => 
            intro z z1 z2 z3
            have zh : z ≠ Str.ofString "held" := z2 _ (.head _)
            have zc : z ≠ Str.ofString "count" := z2 _ (.tail _ (.head _))
            have za : z ≠ Str.ofString "row" := by rintro rfl; exact absurd z3 (by decide)
            have zb : z ≠ Str.ofString "seen" := by rintro rfl; exact absurd z3 (by decide)
            have zd : z ≠ Str.ofString "whole" := by rintro rfl; exact absurd z3 (by decide)
            have ze : z ≠ Str.ofString "digits" := by rintro rfl; exact absurd z3 (by decide)
            have zf : z ≠ Str.ofString "label" := by rintro rfl; exact absurd z3 (by decide)
            simp only [if_neg z1, if_neg zh, if_neg zc, if_neg za, if_neg zb, if_neg zd, if_neg ze, if_neg zf, kstB, z3]
            rfl
        | false =>
          k_steps
          refine Stop.go ?_
          refine wpAny_If (cut_bool (isMark0 (lawSeen row wd.toNat)) F4 N4 ?c5 ?c6)
          case c5 =>
            k_steps
            all_goals (refine CutV.intro ?_ (by assumption) (by assumption) (by (intro p hp; repeat (first | exact hp | refine List.Mem.tail _ ?_))))
            all_goals exact (mark_v (b := !_) hsl (Bool.not_not _).symm).symm
          case c6 =>
            intro h' tk' F5 N5
            clear F4 N4
            cases hmark : isMark0 (lawSeen row wd.toNat) with
            | true =>
              obtain ⟨ds, hds, hdsh, hdse⟩ : ∃ ds : List PyData, (∀ h : Heap, ReadsAll h c.hv ds []) ∧ SeqAt.shaped (.list ds) = true ∧ (!ds.isEmpty) = c.hd.isSome := by
                cases hcd : c.hd with
                | none =>
                  rw [hcd] at hHd
                  have e : c.hv = [] := hHd
                  exact ⟨[], fun _ => by rw [e]; exact .nil, by decide, rfl⟩
                | some hh =>
                  rw [hcd] at hHd hHo
                  obtain ⟨t1, t2, ps, e, hps⟩ := hHd
                  exact ⟨_, fun _ => by rw [e]; exact .cons (as := []) (bs := []) (.int _ _) (.cons (as := []) (bs := []) (.int _ _) (reads_texts hps)), shaped_held fun r hr => (hHo.2.2 r hr).2, rfl⟩
              k_steps
              refine Stop.go ?_
              refine cut_flush wd.toNat lf c tl rest news F5 ?f1 ?f2 ?f3
              case f1 =>
                refine wpAny_If (cut_bool c.hd.isSome F5 N5 ?c7 ?c8)
                case c7 =>
                  k_steps
                  refine Stop.go ?_
                  rename News _ _ _ _ => Nx
                  refine ne_nilK Nx (.tail _ (.head _)) (.head _) (hds _) hdsh (by ktr_units) ?_
                  k_steps
                  refine CutV.intro hdse (by assumption) Nx (by (intro p hp; repeat (first | exact hp | refine List.Mem.tail _ ?_)))
                case c8 =>
                  intro h' tk' F6 N6
                  clear F5 N5
                  cases hcd : c.hd with
                  | none =>
                    dsimp only [Option.isSome]
                    k_steps
                    exact FlushPost.keep hcd hS F6 N6
                  | some hh =>
                    dsimp only [Option.isSome]
                    rw [hcd] at hHd hHo
                    obtain ⟨t1, t2, ps, ehv, hps⟩ := hHd
                    obtain ⟨hne, hpl, hpo⟩ := hHo
                    obtain ⟨ini, z, epz⟩ : ∃ ini z, hh.parts = ini ++ [z] := ⟨hh.parts.dropLast, hh.parts.getLast hne, (List.dropLast_concat_getLast hne).symm⟩
                    rw [epz] at hps hpo hpl
                    obtain ⟨us, tz, rfl, hus⟩ := hps.unsnoc
                    have husl := hus.length
                    rw [List.length_append, List.length_singleton] at hpl
                    have hinl : ini.length ≤ 1000 := by omega
                    have hzl : z.length ≤ 14 := Nat.le_trans (hpo z (by simp)).1 hwn.1
                    have hwe : wholeOf wd.toNat hh.parts = (ini.map fun p => (p ++ blanks wd.toNat).take (wd.toNat - 6)).flatten ++ z := by
                      unfold wholeOf
                      rw [epz, List.dropLast_concat]
                      simp
                    have hmb : ∀ r ∈ ini.map (fun p => (p ++ blanks wd.toNat).take (wd.toNat - 6)), r.length ≤ 8 := by
                      intro r hr
                      obtain ⟨q, _, rfl⟩ := List.mem_map.mp hr
                      rw [List.length_take]
                      omega
                    have hfb : ((ini.map fun p => (p ++ blanks wd.toNat).take (wd.toNat - 6)).flatten).length ≤ 8000 := by
                      have h1 : ((ini.map fun p => (p ++ blanks wd.toNat).take (wd.toNat - 6)).map List.length).sum ≤ _ := sum_le hmb
                      rw [List.length_map] at h1
                      rw [List.length_flatten]
                      have h2 : ini.length * 8 ≤ 1000 * 8 := Nat.mul_le_mul_right _ hinl
                      omega
                    have hwl : (wholeOf wd.toNat hh.parts).length ≤ 9000 := by rw [hwe, List.length_append]; omega
                    have hwok : okT (wholeOf wd.toNat hh.parts) := by
                      rw [hwe]
                      refine okT.app (fun c hc => ?_) (hpo z (by simp)).2
                      obtain ⟨q, hq, hcq⟩ := List.mem_flatten.mp hc
                      obtain ⟨q', hq', rfl⟩ := List.mem_map.mp hq
                      exact ((hpo q' (List.mem_append_left _ hq')).2.app (okT.blanks _)).take _ c hcq
                    have e6 : (wd - 6).toNat = wd.toNat - 6 := by omega
                    rw [ehv] at N6
                    k_steps
                    refine Stop.go ?_
                    refine wpAny_Assign_Name (cut_str (wholeOf wd.toNat hh.parts) F6 N6 ?w1 ?w2)
                    case w1 =>
                      k_steps
                      refine Stop.go ?_
                      refine comp_rel (fun v y => ∀ r t, v = .str (S r) t → ∃ t', y = .str (S ((r ++ blanks wd.toNat).take (wd.toNat - 6))) t') us (by omega) F6 N6 ?q1 ?q2 ?q3 (by with_unfolding_all rfl)
                      case q1 =>
                        k_steps
                        refine Stop.go ?_
                        refine slice_mid F6 N6 (by k_mem) (by simp) (by simp; omega) ?_
                        intro D3 h3 F7 N7 l7
                        rw [List.dropLast_concat] at N7
                        exact ⟨D3, 0, _, _, rfl, rfl, F7, N7, fun p hp => Nat.ne_of_lt (l7 p hp)⟩
                      case q2 =>
                        intro l' k' v I oI C oC D m₂ ys h2 tk2 E' hv hC hx F7 N7
                        obtain ⟨j, hj⟩ := List.getElem?_of_mem hv
                        obtain ⟨r, u, hr, rfl⟩ := hus.got hj
                        have hrl := Nat.le_trans (hpo r (List.mem_append_left _ (List.mem_of_getElem? hr))).1 hwn.1
                        have hx' : m₂ (Str.ofString "part") = some (.str (S r) u) := hx
                        clear F6 N6
                        k_steps
                        refine CutV.intro ?_ (by assumption) (by assumption) (by (intro p hp; repeat (first | exact hp | refine List.Mem.tail _ ?_)))
                        intro r2 u2 e
                        have er : r = r2 := by
                          injection e with e1
                          simpa [S] using congrArg (fun y => y.cps.toList) e1
                        rw [← er, ← e6]
                        exact ⟨_, rfl⟩
                      case q3 =>
                        intro D3 ys n3 h3 tk3 F7 N7 o7 hP7
                        have hTy := paired_texts hus hP7
                        clear F6 N6
                        k_steps
                        refine Stop.go ?_
                        rename News _ _ _ _ => Nx
                        refine join_T (sp := []) lit_nil Nx (.head _) hTy (fun r hr => Nat.le_trans (hmb r hr) (by decide)) (by rw [List.length_map]; omega) (by decide) ?_
                        intro t' k'
                        rw [joinL_nil]
                        k_steps
                        refine Stop.go ?_
                        refine item_last (vs := .int hh.line t1 :: .int hh.lab t2 :: us) Nx (by exact .tail _ (.head _)) (by rw [List.length_cons, List.length_cons]; omega) ?_
                        k_steps
                        refine CutV.intro ?_ (by assumption) (by assumption) (by (intro p hp; repeat (first | exact hp | refine List.Mem.tail _ ?_)))
                        rw [hwe]
                        exact ⟨_, rfl⟩
                    case w2 =>
                      intro t3 h3 tk3 F7 N7
                      clear F6 N6
                      k_steps
                      refine Stop.go ?_
                      rename News _ _ _ _ => N8
                      rename Fr _ _ _ _ => F8
                      refine wpAny_If (cut_bool (decide (nb (wholeOf wd.toNat hh.parts) = [])) F8 N8 ?v1 ?v2)
                      case v1 =>
                        k_steps
                        refine Stop.go ?_
                        refine comp_str' (fun r => r != [32]) (wholeOf wd.toNat hh.parts) (by omega) F8 N8 ?z1 ?z2 (test_sp (by decide) rfl rfl)
                        case z1 =>
                          k_steps
                          exact CutV.intro ⟨_, rfl⟩ (by assumption) (by assumption) (by (intro p hp; repeat (first | exact hp | refine List.Mem.tail _ ?_)))
                        case z2 =>
                          intro D4 ys4 n4 h4 tk4 F9 N9 hD4 hT4
                          clear F8 N8
                          rw [filt_sp] at hT4
                          k_steps
                          refine Stop.go ?_
                          rename News _ _ _ _ => Nx
                          refine eq_nilK Nx (.tail _ (.head _)) (.head _) (reads_texts hT4) (shaped_texts fun r hr => ?_) (by ktr_units) ?_
                          · obtain ⟨c', hc', rfl⟩ := List.mem_map.mp hr
                            intro x hx
                            rw [List.mem_singleton.mp hx]
                            exact hwok.nb c' hc'
                          k_steps
                          refine CutV.intro ?_ (by assumption) Nx (by (intro p hp; repeat (first | exact hp | refine List.Mem.tail _ ?_)))
                          rw [List.isEmpty_map, List.isEmpty_map]
                          cases nb (wholeOf wd.toNat hh.parts) <;> simp
                      case v2 =>
                        intro h' tk' F9 N9
                        clear F8 N8
                        by_cases hb : nb (wholeOf wd.toNat hh.parts) = []
                        · rw [decide_eq_true hb]
                          k_steps
                          dsimp only
                          refine FlushPost.err ?_ (by assumption) N9 (fun p hp => .tail _ (.tail _ hp))
                          rw [hcd]
                          unfold lawFlush
                          dsimp only
                          rw [if_pos hb]
                        · rw [decide_eq_false hb]
                          k_steps
                          rename News _ _ _ _ => kN
                          rename Fr _ _ _ _ => kF
                          rename _ ∧ _ ∧ AllLt _ _ => kl
                          refine FlushPost.more (u := fun _ => some (.str (S (wholeOf wd.toNat hh.parts)) t3)) (fv := c.fv ++ [.ref _]) (st := c.st ++ [⟨hh.line, hh.lab, wholeOf wd.toNat hh.parts⟩]) ?_ kF (by rw [ehv]; exact kN) (StmsAt.snoc (hS.mono fun p hp => .tail _ hp) (.head _)) (fun p hp => allLt_to kl.2.2 p hp) hnr kl.1 kl.2.1 (by rw [List.length_append, List.length_singleton]; exact Nat.le_refl _)
                          rw [hcd]
                          unfold lawFlush
                          dsimp only
                          rw [if_neg hb]
              case f2 =>
                intro v t h' tk' m' hfe F6 N6
                clear F5 N5
                dsimp only [TurnL]
                k_steps
                rename News h₀ _ _ _ => kN
                rename Fr h₀ _ _ _ => kF
                refine hretE v ?_ _ _ _ kF (fun p hp => kN p (hnr p hp))
                rw [← hgo]
                unfold lawTurn
                rw [if_neg (by rw [hskip]; decide), if_pos hmark, hfe]
              case f3 =>
                intro add fv fn st' u2 h' tk' hfe F6 N6 hS6 hA6 ho6 ho7 hfl6
                clear F5 N5
                have hok5 : okT (nb ((lawSeen row wd.toNat).take 5)) := (((hrok.app (okT.blanks 40)).take _).take 5).nb
                have hnb5 : (nb ((lawSeen row wd.toNat).take 5)).length ≤ 5 := Nat.le_trans (nb_len _) (by rw [List.length_take]; omega)
                have hrr : ∀ p ∈ rest, p ∈ add ++ rest := fun p hp => List.mem_append_right _ hp
                have hl6 := hrr _ hl'
                have hcell6 := hrr _ hcell
                k_steps
                refine Stop.go ?_
                refine wpAny_If (cut_bool (decide (i = rows.length)) F6 N6 ?c9 ?c10)
                case c9 =>
                  k_steps
                  all_goals (refine CutV.intro ?_ (by assumption) (by assumption) (by (intro p hp; repeat (first | exact hp | refine List.Mem.tail _ ?_))))
                  exact decide_eq_decide.mpr (by omega)
                case c10 =>
                  intro h' tk' F7 N7
                  clear F6 N6
                  by_cases hin : i = rows.length
                  · rw [decide_eq_true hin]
                    k_steps
                    dsimp only [TurnL]
                    k_steps
                    rename News h₀ _ _ _ => kN
                    rename Fr h₀ _ _ _ => kF
                    refine hret st' ?_ _ _ lf fv fn (add ++ tl) kF (fun p hp => kN p ?_) (Above.cons (allLt_to l2.2) (hA6.app hA)) hS6
                    · rw [← hgo]
                      unfold lawTurn
                      rw [if_neg (by rw [hskip]; decide), if_pos hmark, hfe]
                      dsimp only
                      rw [if_pos hin]
                    · refine .tail _ ?_
                      rcases List.mem_cons.mp hp with rfl | hp
                      · exact .head _
                      · refine .tail _ ?_
                        rcases List.mem_append.mp hp with hp | hp
                        · rcases List.mem_append.mp hp with hp | hp
                          · exact List.mem_append_left _ hp
                          · exact List.mem_append_right _ (hs p (List.mem_append_left _ hp))
                        · exact List.mem_append_right _ (hnr p hp)
                  · rw [decide_eq_false hin]
                    k_steps
                    refine Stop.go ?_
                    refine comp_strA' (fun r => r != [32]) ((lawSeen row wd.toNat).take 5) (by rw [List.length_take]; omega) F7 N7 ?d1 ?d2 (test_sp (by decide) rfl rfl)
                    case d1 =>
                      k_steps
                      exact CutV.intro ⟨_, rfl⟩ (by assumption) (by assumption) (by (intro p hp; repeat (first | exact hp | refine List.Mem.tail _ ?_)))
                    case d2 =>
                      intro D ys n h' tk F8 N8 hD hTy
                      clear F7 N7
                      rw [filt_sp] at hTy
                      have hyl := hTy.length
                      rw [List.length_map] at hyl
                      have hokm : ∀ r ∈ (nb ((lawSeen row wd.toNat).take 5)).map (fun c => [c]), okT r := by
                        intro r hr
                        obtain ⟨c', hc', rfl⟩ := List.mem_map.mp hr
                        intro x hx
                        rw [List.mem_singleton.mp hx]
                        exact hok5 c' hc'
                      have hlm : ∀ r ∈ (nb ((lawSeen row wd.toNat).take 5)).map (fun c => [c]), r.length ≤ 1 := by
                        intro r hr
                        obtain ⟨c', hc', rfl⟩ := List.mem_map.mp hr
                        exact Nat.le_refl _
                      k_steps
                      refine Stop.go ?_
                      refine wpAny_If (cut_bool (!(nb ((lawSeen row wd.toNat).take 5)).all isDig) F8 N8 ?e1 ?e2)
                      case e1 =>
                        k_steps
                        refine Stop.go ?_
                        refine comp_list' _ (.head _) hTy (by rw [List.length_map]; omega) F8 N8 ?g1 ?g2 (test_dig (by decide) rfl rfl)
                        case g1 =>
                          k_steps
                          exact CutV.intro rfl (by assumption) (by assumption) (by (intro p hp; repeat (first | exact hp | refine List.Mem.tail _ ?_)))
                        case g2 =>
                          intro D2 ys2 n2' h2 tk2 F9 N9 hD2 hT2
                          k_steps
                          refine Stop.go ?_
                          rename News _ _ _ _ => Nx
                          refine ne_nilK Nx (.tail _ (.head _)) (.head _) (reads_texts hT2) (shaped_texts fun r hr => hokm r (List.mem_filter.mp hr).1) (by ktr_units) ?_
                          k_steps
                          refine CutV.intro ?_ (by assumption) Nx (by (intro p hp; repeat (first | exact hp | refine List.Mem.tail _ ?_)))
                          rw [List.isEmpty_map, filt_dig]
                      case e2 =>
                        intro h' tk' F9 N9
                        clear F8 N8
                        cases hdg : (nb ((lawSeen row wd.toNat).take 5)).all isDig with
                        | false =>
                          dsimp only [Bool.not_false]
                          k_steps
                          dsimp only [TurnL]
                          k_steps
                          rename News h₀ _ _ _ => kN
                          rename Fr h₀ _ _ _ => kF
                          refine hretE ((i : Int) + 1) ?_ _ _ _ kF (fun p hp => kN p ?_)
                          · rw [← hgo]
                            unfold lawTurn
                            rw [if_neg (by rw [hskip]; decide), if_pos hmark, hfe]
                            dsimp only
                            rw [if_neg hin, if_pos hdg]
                            rfl
                          · exact .tail _ (.tail _ (.tail _ (hrr p (hnr p hp))))
                        | true =>
                          dsimp only [Bool.not_true]
                          k_steps
                          refine Stop.go ?_
                          rename News _ _ _ _ => Nx
                          rename Fr _ _ _ _ => Fx
                          refine add_K Fx Nx (vs := [_]) (.head _) (.tail _ (.head _)) (by simp only [List.length_cons, List.length_nil]; omega) ?_
                          intro D4 h4 F10 N10 l10
                          k_steps
                          refine Stop.go ?_
                          refine join_T (sp := []) (rs := [48] :: (nb ((lawSeen row wd.toNat).take 5)).map (fun c => [c])) lit_nil N10 (.head _) (by rw [lit_0]; exact .cons [48] _ hTy) (List.forall_mem_cons.mpr ⟨by decide, fun r hr => Nat.le_trans (hlm r hr) (by decide)⟩) (by simp only [List.length_cons, List.length_map]; omega) (by decide) ?_
                          intro t' k'
                          have hjn : joinL [] ([48] :: (nb ((lawSeen row wd.toNat).take 5)).map (fun c => [c])) = 48 :: nb ((lawSeen row wd.toNat).take 5) := by
                            rw [joinL_nil, List.flatten_cons, ← List.flatMap_def]
                            simp
                          rw [hjn]
                          k_steps
                          refine Stop.go ?_
                          refine KIN.call_text (n := labV (nb ((lawSeen row wd.toNat).take 5))) ?_ ?_ ?_
                          · refine PySem.intText_digits (x := S (48 :: nb ((lawSeen row wd.toNat).take 5))) ?_ (by rw [S_list]; exact List.cons_ne_nil _ _) (by rw [S_len, List.length_cons]; omega)
                            rw [S_list]
                            intro c' hc'
                            rcases List.mem_cons.mp hc' with rfl | hc'
                            · decide
                            · have := List.all_eq_true.mp hdg c' hc'
                              simpa [isDig] using this
                          · rw [S_len, List.length_cons]; omega
                          k_steps
                          refine Stop.go ?_
                          rename News _ _ _ _ => Nx
                          rename Fr _ _ _ _ => Fx
                          refine wpAny_If (cut_bool (decide (nb ((lawSeen row wd.toNat).take 5) ≠ [] ∧ labV (nb ((lawSeen row wd.toNat).take 5)) = 0)) Fx Nx ?k1 ?k2)
                          case k1 =>
                            k_steps
                            refine Stop.go ?_
                            rename News _ _ _ _ => Ny
                            refine ne_nilK Ny (by k_mem) (.head _) (reads_texts hTy) (shaped_texts hokm) (by ktr_units) ?_
                            k_steps
                            all_goals (refine CutV.intro ?_ (by assumption) Ny (by (intro p hp; repeat (first | exact hp | refine List.Mem.tail _ ?_))))
                            · rename List.isEmpty _ = true => hz
                              rw [List.isEmpty_map, List.isEmpty_map, List.isEmpty_iff] at hz
                              exact (decide_eq_false fun h => h.1 hz).symm
                            · rename List.isEmpty _ = false => hz
                              rename labV _ = 0 => hv0
                              exact (decide_eq_true ⟨fun e => (by rw [e] at hz; cases hz), hv0⟩).symm
                            · rename labV _ ≠ 0 => hv0
                              exact (decide_eq_false fun h => hv0 h.2).symm
                          case k2 =>
                            intro h' tk' F11 N11
                            by_cases hlz : nb ((lawSeen row wd.toNat).take 5) ≠ [] ∧ labV (nb ((lawSeen row wd.toNat).take 5)) = 0
                            · rw [decide_eq_true hlz]
                              k_steps
                              dsimp only [TurnL]
                              k_steps
                              rename News h₀ _ _ _ => kN
                              rename Fr h₀ _ _ _ => kF
                              refine hretE ((i : Int) + 1) ?_ _ _ _ kF (fun p hp => kN p ?_)
                              · rw [← hgo]
                                unfold lawTurn
                                rw [if_neg (by rw [hskip]; decide), if_pos hmark, hfe]
                                dsimp only
                                rw [if_neg hin, if_neg (by rw [hdg]; decide), if_pos hlz]
                                rfl
                              · exact .tail _ (.tail _ (.tail _ (.tail _ (.tail _ (hrr p (hnr p hp))))))
                            · rw [decide_eq_false hlz]
                              k_steps
                              rename News _ _ _ _ => kN
                              rename Fr _ _ _ _ => kF
                              rename _ ∧ _ ∧ _ ∧ _ ∧ _ ∧ AllLt _ _ => kl
                              have kA := allLt_to kl.2.2.2.2.2
                              have hbl : ((row.take wd.toNat).drop 6).length ≤ wd.toNat := by rw [List.length_drop, List.length_take]; omega
                              refine' TurnL.next' ⟨fv, fn, st', ?lh, ?hv, ?hn, some ⟨((i + 1 : Nat) : Int), labV (nb ((lawSeen row wd.toNat).take 5)), [(row.take wd.toNat).drop 6]⟩, 0, ?tk⟩ add kF kN ?pn ?pf ?pf2 ?pP ?pk ?py
                              case pk =>
                                refine List.forall_mem_cons.mpr ⟨?_, List.forall_mem_cons.mpr ⟨?_, fun _ h => nomatch h⟩⟩
                                · with_unfolding_all rfl
                                · with_unfolding_all rfl
                              case pn =>
                                dsimp only [List.cons_append, List.nil_append]
                                intro p hp
                                rcases List.mem_cons.mp hp with rfl | hp
                                · exact .head _
                                · refine .tail _ (.tail _ (.tail _ (.tail _ (.tail _ ?_))))
                                  exact hp
                              case pf => exact Off.cons (fun p hp => Nat.ne_of_lt (kA p (hrr p hp))) (Off.cons (Off.head (Off.rest ho)) ho6)
                              case pf2 => exact Off.two (fun p hp => Nat.ne_of_lt (kA p (List.mem_append_left _ hp))) (Off.head (Off.rest ho7))
                              case pP =>
                                refine ⟨add ++ tl, by rw [List.append_assoc], hA6.app hA, hS6, ⟨_, _, [_], rfl, .cons _ _ .nil⟩, ⟨by simp, Nat.succ_le_succ (Nat.zero_le _), fun p hp => by rw [List.mem_singleton.mp hp]; exact ⟨hbl, (hrok.take _).drop _⟩⟩, Nat.le_trans hfl6 (Nat.succ_le_succ hfl), kl.2.2.2.2.1, fun p hp => kA p (hrr p (hs p (List.mem_append_right _ hp))), ⟨Int.le_refl 0, Int.natCast_nonneg _⟩, ?_⟩
                                rw [← hgo]
                                unfold lawTurn
                                rw [if_neg (by rw [hskip]; decide), if_pos hmark, hfe]
                                dsimp only
                                rw [if_neg hin, if_neg (by rw [hdg]; decide), if_neg hlz]
                              case py => 
                                intro z z1 z2 z3
                                have zh : z ≠ Str.ofString "held" := z2 _ (.head _)
                                have zc : z ≠ Str.ofString "count" := z2 _ (.tail _ (.head _))
                                have za : z ≠ Str.ofString "row" := by rintro rfl; exact absurd z3 (by decide)
                                have zb : z ≠ Str.ofString "seen" := by rintro rfl; exact absurd z3 (by decide)
                                have zd : z ≠ Str.ofString "whole" := by rintro rfl; exact absurd z3 (by decide)
                                have ze : z ≠ Str.ofString "digits" := by rintro rfl; exact absurd z3 (by decide)
                                have zf : z ≠ Str.ofString "label" := by rintro rfl; exact absurd z3 (by decide)
                                simp only [if_neg z1, if_neg zh, if_neg zc, if_neg za, if_neg zb, if_neg zd, if_neg ze, if_neg zf, kstB, z3]
                                rfl
            | false =>
              k_steps
              refine Stop.go ?_
              rename News _ _ _ _ => N6
              rename Fr _ _ _ _ => F6
              cases hcd : c.hd with
              | none =>
                rw [hcd] at hHd
                have ehv : c.hv = [] := hHd
                refine wpAny_If (cut_bool true F6 N6 ?u1 ?u2)
                case u1 =>
                  k_steps
                  refine Stop.go ?_
                  rename News _ _ _ _ => Nx
                  refine eq_nilK (ds := []) Nx (.tail _ (.head _)) (.head _) (by rw [ehv]; exact .nil) (by decide) (by ktr_units) ?_
                  k_steps
                  refine CutV.intro rfl (by assumption) Nx (by (intro p hp; repeat (first | exact hp | refine List.Mem.tail _ ?_)))
                case u2 =>
                  intro h' tk' F7 N7
                  k_steps
                  dsimp only [TurnL]
                  k_steps
                  rename News h₀ _ _ _ => kN
                  rename Fr h₀ _ _ _ => kF
                  refine hretE ((i : Int) + 1) ?_ _ _ _ kF (fun p hp => kN p (.tail _ (.tail _ (hnr p hp))))
                  rw [← hgo]
                  unfold lawTurn
                  rw [if_neg (by rw [hskip]; decide), if_neg (by rw [hmark]; decide), hcd]
                  rfl
              | some hh =>
                rw [hcd] at hHd hHo
                obtain ⟨t1, t2, ps, ehv, hps⟩ := hHd
                obtain ⟨hne, hpl, hpo⟩ := hHo
                have hpsl := hps.length
                have hpne : ps ≠ [] := by intro e; rw [e] at hpsl; exact hne (List.length_eq_zero_iff.mp hpsl.symm)
                refine wpAny_If (cut_bool (decide ((lawSeen row wd.toNat).take 5 ≠ blanks 5 ∨ most < c.ct + 1)) F6 N6 ?u1 ?u2)
                case u1 =>
                  k_steps
                  refine Stop.go ?_
                  rename News _ _ _ _ => Nx
                  refine eq_nilK Nx (.tail _ (.head _)) (.head _) (by rw [ehv]; exact .cons (as := []) (bs := []) (.int _ _) (.cons (as := []) (bs := []) (.int _ _) (reads_texts hps))) (shaped_held fun r hr => (hpo r hr).2) (by ktr_units) ?_
                  k_steps
                  · rename List.isEmpty _ = true => hz
                    cases hz
                  · rename (S _ != Str.ofString "     ") = true => hz
                    refine CutV.intro ?_ (by assumption) (by assumption) (by (intro p hp; repeat (first | exact hp | refine List.Mem.tail _ ?_)))
                    refine (decide_eq_true (Or.inl ?_)).symm
                    intro e
                    rw [show (S (List.take (5 : Int).toNat (List.take wd.toNat (row ++ blanks (40 : Int).toNat))) : Str) = S ((lawSeen row wd.toNat).take 5) from rfl, e, lit_5] at hz
                    simp [bne, S_beq] at hz
                  · rename most < _ => hz
                    refine CutV.intro ?_ (by assumption) (by assumption) (by (intro p hp; repeat (first | exact hp | refine List.Mem.tail _ ?_)))
                    exact (decide_eq_true (Or.inr hz)).symm
                  · rename ¬ most < _ => hz
                    rename (S _ != Str.ofString "     ") = false => hy
                    refine CutV.intro ?_ (by assumption) (by assumption) (by (intro p hp; repeat (first | exact hp | refine List.Mem.tail _ ?_)))
                    refine (decide_eq_false fun h => h.elim (fun h => h ?_) hz).symm
                    rw [show (S (List.take (5 : Int).toNat (List.take wd.toNat (row ++ blanks (40 : Int).toNat))) : Str) = S ((lawSeen row wd.toNat).take 5) from rfl, lit_5] at hy
                    simpa [bne, S_beq] using hy
                case u2 =>
                  intro h' tk' F7 N7
                  clear F6 N6
                  by_cases hq : (lawSeen row wd.toNat).take 5 ≠ blanks 5 ∨ most < c.ct + 1
                  · rw [decide_eq_true hq]
                    k_steps
                    dsimp only [TurnL]
                    k_steps
                    rename News h₀ _ _ _ => kN
                    rename Fr h₀ _ _ _ => kF
                    refine hretE ((i : Int) + 1) ?_ _ _ _ kF (fun p hp => kN p (.tail _ (.tail _ (hnr p hp))))
                    rw [← hgo]
                    unfold lawTurn
                    rw [if_neg (by rw [hskip]; decide), if_neg (by rw [hmark]; decide), hcd]
                    dsimp only
                    rw [if_pos hq]
                    rfl
                  · rw [decide_eq_false hq]
                    obtain ⟨r0, rs0, epr⟩ : ∃ r0 rs0, hh.parts = r0 :: rs0 := List.exists_cons_of_ne_nil hne
                    have hhd : hh.parts.headD [] = r0 := by rw [epr]; rfl
                    have hr0 := hpo r0 (by rw [epr]; exact .head _)
                    have hr0l : r0.length ≤ 14 := Nat.le_trans hr0.1 hwn.1
                    rw [epr] at hps hpl
                    obtain ⟨t0, ps0, rfl, hps0⟩ : ∃ t0 ps0, ps = .str (S r0) t0 :: ps0 ∧ TextsAre ps0 rs0 := by cases hps with | cons _ t h => exact ⟨t, _, rfl, h⟩
                    have hps0l := hps0.length
                    rw [List.length_cons] at hpl
                    rw [ehv] at N7
                    k_steps
                    refine Stop.go ?_
                    refine wpAny_If (cut_bool (decide (nb (hh.parts.headD []) = [69, 78, 68])) F7 N7 ?v1 ?v2)
                    case v1 =>
                      k_steps
                      refine Stop.go ?_
                      refine comp_str' (fun r => r != [32]) r0 (by omega) F7 N7 ?z1 ?z2 (test_sp (by decide) rfl rfl)
                      case z1 =>
                        k_steps
                        exact CutV.intro ⟨_, rfl⟩ (by assumption) (by assumption) (by (intro p hp; repeat (first | exact hp | refine List.Mem.tail _ ?_)))
                      case z2 =>
                        intro D4 ys4 n4 h4 tk4 F9 N9 hD4 hT4
                        clear F7 N7
                        rw [filt_sp] at hT4
                        have hnl := nb_len r0
                        k_steps
                        refine Stop.go ?_
                        rename News _ _ _ _ => Nx
                        refine join_T (sp := []) lit_nil Nx (.head _) hT4 (fun r hr => ?_) (by rw [List.length_map]; omega) (by decide) ?_
                        · obtain ⟨c', hc', rfl⟩ := List.mem_map.mp hr
                          exact (by decide : 1 ≤ 1000)
                        intro t' k'
                        have hjn : joinL [] ((nb r0).map (fun c => [c])) = nb r0 := by
                          rw [joinL_nil, ← List.flatMap_def]
                          simp
                        rw [hjn]
                        k_steps
                        refine CutV.intro ?_ (by assumption) (by assumption) (by (intro p hp; repeat (first | exact hp | refine List.Mem.tail _ ?_)))
                        rw [hhd, lit_END, S_beq]
                    case v2 =>
                      intro h' tk' F9 N9
                      clear F7 N7
                      by_cases hb : nb (hh.parts.headD []) = [69, 78, 68]
                      · rw [decide_eq_true hb]
                        k_steps
                        dsimp only [TurnL]
                        k_steps
                        rename News h₀ _ _ _ => kN
                        rename Fr h₀ _ _ _ => kF
                        refine hretE ((i : Int) + 1) ?_ _ _ _ kF (fun p hp => kN p (.tail _ (.tail _ (hnr p hp))))
                        rw [← hgo]
                        unfold lawTurn
                        rw [if_neg (by rw [hskip]; decide), if_neg (by rw [hmark]; decide), hcd]
                        dsimp only
                        rw [if_neg hq, if_pos hb]
                        rfl
                      · rw [decide_eq_false hb]
                        k_steps
                        rename News _ _ _ _ => kN
                        rename Fr _ _ _ _ => kF
                        rw [List.push_toArray] at kN
                        have hbl : ((row.take wd.toNat).drop 6).length ≤ wd.toNat := by rw [List.length_drop, List.length_take]; omega
                        refine' TurnL.next' ⟨c.fv, c.fn, c.st, c.lh, ?hvB, ?hnB, some ⟨hh.line, hh.lab, hh.parts ++ [(row.take wd.toNat).drop 6]⟩, c.ct + 1, ?tkB⟩ [] kF kN ?pnB ?pfB ?pf2B ?pPB ?pkB ?pyB
                        case pkB =>
                          refine List.forall_mem_cons.mpr ⟨?_, List.forall_mem_cons.mpr ⟨?_, fun _ h => nomatch h⟩⟩
                          · with_unfolding_all rfl
                          · with_unfolding_all rfl
                        case pnB =>
                          dsimp only [List.cons_append, List.nil_append]
                          intro p hp
                          rcases List.mem_cons.mp hp with rfl | hp
                          · exact .head _
                          · exact .tail _ hp
                        case pfB => exact Off.two (Off.head ho) (Off.head (Off.rest ho))
                        case pf2B => exact fun _ h => nomatch h
                        case pPB =>
                          refine ⟨tl, rfl, hA, hS, ⟨t1, t2, (.str (S r0) t0 :: ps0) ++ [_], rfl, by dsimp only; rw [epr]; exact hps.app (.cons _ _ .nil)⟩, ⟨by simp, ?_, fun p hp => ?_⟩, Nat.le_trans hfl (Nat.le_succ _), hlf, hlh, ⟨by dsimp only; omega, by dsimp only; omega⟩, ?_⟩
                          · dsimp only
                            rw [List.length_append, epr, List.length_cons, List.length_singleton]
                            omega
                          · rcases List.mem_append.mp hp with hp | hp
                            · exact hpo p hp
                            · rw [List.mem_singleton.mp hp]
                              exact ⟨hbl, (hrok.take _).drop _⟩
                          · rw [← hgo]
                            unfold lawTurn
                            rw [if_neg (by rw [hskip]; decide), if_neg (by rw [hmark]; decide), hcd]
                            dsimp only
                            rw [if_neg hq, if_neg hb]
                        case pyB => 
                          intro z z1 z2 z3
                          have zh : z ≠ Str.ofString "held" := z2 _ (.head _)
                          have zc : z ≠ Str.ofString "count" := z2 _ (.tail _ (.head _))
                          have za : z ≠ Str.ofString "row" := by rintro rfl; exact absurd z3 (by decide)
                          have zb : z ≠ Str.ofString "seen" := by rintro rfl; exact absurd z3 (by decide)
                          have zd : z ≠ Str.ofString "whole" := by rintro rfl; exact absurd z3 (by decide)
                          have ze : z ≠ Str.ofString "digits" := by rintro rfl; exact absurd z3 (by decide)
                          have zf : z ≠ Str.ofString "label" := by rintro rfl; exact absurd z3 (by decide)
                          simp only [if_neg z1, if_neg zh, if_neg zc, if_neg za, if_neg zb, if_neg zd, if_neg ze, if_neg zf, kstB, z3]
                          rfl
  case pd =>
    intro c tlc u h tk hc ho hP F2 N2
    obtain ⟨tl, rfl, hA, hS, hHd, hHo, hfl, hlf, hlh, hct, hgo⟩ := hP
    dsimp only [List.cons_append, List.nil_append] at N2
    replace F2 : Fr g1 L1 h _ := F2
    replace N2 : News g1 L1 h _ := N2
    clear F' N'
    k_steps
    rename News h₀ _ _ _ => kN
    rename Fr h₀ _ _ _ => kF
    refine hret c.st ?_ _ _ lf c.fv c.fn tl kF (fun p hp => kN p ?_) (Above.cons (allLt_to l2.2) hA) hS
    · rw [← hgo, List.drop_of_length_le (by simp)]
      rfl
    · rcases List.mem_cons.mp hp with rfl | hp
      · exact .tail _ (.head _)
      · refine .tail _ (.tail _ ?_)
        rcases List.mem_append.mp hp with hp | hp
        · exact List.mem_append_left _ hp
        · exact List.mem_append_right _ (.tail _ hp)
end
theorem flush_Q1 {prog : Program} {w : World} {A : Around} {env : Env} {Q : Flow → Shared → Prop} {E : Value → Shared → Prop} {s : Shared} (h : wpAny (model prog w) A (execs [] env) Q E s) : wpAny (model prog w) A (execs [] env) Q E s := by
  w_top off
  first | (walk1; fail) | exact h
section
theorem labGo_digs : ∀ (ds : Tx) (a : Nat), ds.all isDig = true → labGo ds (a : Int) = some ((ds.foldl (fun n c => n * 10 + (c - 48)) a : Nat) : Int)
  | [], _, _ => rfl
  | c :: r, a, h => by
    simp only [List.all_cons, Bool.and_eq_true] at h
    have hc : 48 ≤ c ∧ c ≤ 57 := by simpa [isDig] using h.1
    have e : (a : Int) * 10 + ((c : Int) - 48) = ((a * 10 + (c - 48) : Nat) : Int) := by omega
    rw [labGo, if_pos hc, List.foldl_cons, e]
    exact labGo_digs r _ h.2
theorem labGo_non : ∀ (ds : Tx) (a : Int), ds.all isDig = false → labGo ds a = none
  | [], _, h => by cases h
  | c :: r, a, h => by
    rw [labGo]
    by_cases hc : 48 ≤ c ∧ c ≤ 57
    · rw [if_pos hc]
      refine labGo_non r _ ?_
      simpa [List.all_cons, isDig, hc] using h
    · rw [if_neg hc]
theorem labV_eq (ds : Tx) : labV ds = ((ds.foldl (fun n c => n * 10 + (c - 48)) 0 : Nat) : Int) := rfl
theorem readLabel_law (lab : Tx) : readLabel lab = if (nb lab).all isDig = false then none else if nb lab ≠ [] ∧ labV (nb lab) = 0 then none else some (labV (nb lab)) := by
  unfold readLabel
  by_cases h0 : nb lab = []
  · rw [if_pos h0, h0, if_neg (by simp), if_neg (by simp)]
    rfl
  · rw [if_neg h0]
    cases hd : (nb lab).all isDig with
    | false => rw [if_pos rfl, labGo_non _ _ hd]
    | true =>
      rw [if_neg (by decide), show labGo (nb lab) 0 = _ from labGo_digs _ 0 hd]
      simp only [← labV_eq]
      by_cases hv : labV (nb lab) = 0
      · rw [if_pos ⟨h0, hv⟩]
        simp [hv]
      · rw [if_neg fun h => hv h.2]
        simp [hv]
theorem nb_nil (l : Tx) : nb l = [] ↔ ∀ c ∈ l, c = 32 := by
  unfold nb
  simp [List.filter_eq_nil_iff]
theorem is_blanks (l : Tx) (n : Nat) : l = blanks n ↔ l.length = n ∧ ∀ c ∈ l, c = 32 := List.eq_replicate_iff
theorem lawSeen_eq (row : Tx) (w : Nat) (hw : w ≤ 40) : lawSeen row w = row.take w ++ blanks (w - row.length) := by
  unfold lawSeen blanks
  rw [List.take_append, List.take_replicate]
  congr 2
  omega
theorem seenOf_eq (row : Tx) (w : Nat) : seenOf row w = row.take w ++ blanks (6 - (row.take w).length) := by
  unfold seenOf
  split
  · rfl
  · rw [show 6 - (row.take w).length = 0 by omega]
    simp [blanks]
theorem six (l : Tx) (k : Nat) (h : 6 ≤ l.length + k) : (l ++ blanks k).take 6 = (l ++ blanks (6 - l.length)).take 6 := by
  unfold blanks
  rw [List.take_append, List.take_append, List.take_replicate, List.take_replicate]
  congr 2
  omega
theorem seen6 (row : Tx) (w : Nat) (hw : 9 ≤ w ∧ w ≤ 14) : (lawSeen row w).take 6 = (seenOf row w).take 6 := by
  rw [lawSeen_eq _ _ (by omega), seenOf_eq]
  refine six _ _ ?_
  rw [List.length_take]
  omega
theorem seen5 (row : Tx) (w : Nat) (hw : 9 ≤ w ∧ w ≤ 14) : (lawSeen row w).take 5 = (seenOf row w).take 5 := by
  have := congrArg (List.take 5) (seen6 row w hw)
  rwa [List.take_take, List.take_take] at this
theorem seenM (row : Tx) (w : Nat) (hw : 9 ≤ w ∧ w ≤ 14) : ((lawSeen row w).drop 5).take 1 = ((seenOf row w).drop 5).take 1 := by
  have := congrArg (List.drop 5) (seen6 row w hw)
  rwa [List.drop_take, List.drop_take] at this
theorem seenB (row : Tx) (w : Nat) : (seenOf row w).drop 6 = (row.take w).drop 6 := by
  rw [seenOf_eq, List.drop_append]
  unfold blanks
  rw [List.drop_replicate]
  simp
theorem skip_eq (row : Tx) (w : Nat) (hw : 9 ≤ w ∧ w ≤ 14) : lawSkip row w = isComment row w := by
  unfold lawSkip isComment
  have h1 : (decide (row.take 1 ≠ []) && inCc (row.take 1)) = (decide (row.take 1 = [67]) || decide (row.take 1 = [99]) || decide (row.take 1 = [42])) := by
    unfold inCc
    cases h : row.take 1 with
    | nil => simp
    | cons c r => simp
  rw [h1]
  congr 1
  refine decide_eq_decide.mpr ?_
  rw [nb_nil, is_blanks, lawSeen_eq _ _ (by omega)]
  constructor
  · intro h c hc
    exact h.2 c (List.mem_append_left _ hc)
  · intro h
    refine ⟨by rw [List.length_append, blanks_len, List.length_take]; omega, fun c hc => ?_⟩
    rcases List.mem_append.mp hc with hc | hc
    · exact h c hc
    · exact List.eq_of_mem_replicate hc
theorem mark_eq (k : Nat) (row : Tx) (w : Nat) (hw : 9 ≤ w ∧ w ≤ 14) : isMark0 (lawSeen row w) = !isCont (cardOf k row w) := by
  unfold isMark0 isCont cardOf
  rw [seenM _ _ hw]
  simp
theorem padTo_law (p : Tx) (w : Nat) (hw : 9 ≤ w ∧ w ≤ 14) (hp : p.length ≤ w - 6) : (p ++ blanks w).take (w - 6) = padTo p ((w : Int) - 6) := by
  unfold padTo blanks
  rw [List.take_append, List.take_replicate, List.take_of_length_le hp]
  by_cases h : (p.length : Int) < (w : Int) - 6
  · rw [if_pos h]
    congr 2
    omega
  · rw [if_neg h, show min (w - 6 - p.length) w = 0 by omega]
    simp
theorem jpart_all (W : Int) (ini : List Tx) (z : Tx) : jpart W (ini ++ [z]) (ini ++ [z]).length = (ini.map fun p => padTo p W).flatten ++ z := by
  rw [List.length_append, show [z].length = 1 from rfl]
  unfold jpart
  rw [List.range_succ, List.map_append, List.flatten_append]
  congr 1
  · congr 1
    refine List.ext_getElem (by simp) fun k h1 h2 => ?_
    have hk : k < ini.length := by simpa using h2
    simp [hk, List.getD_eq_getElem?_getD, List.getElem?_append_left hk]
  · simp
theorem whole_eq (w : Nat) (hw : 9 ≤ w ∧ w ≤ 14) (cs : List Card) (hne : cs ≠ []) (hp : ∀ c ∈ cs, c.body.length ≤ w - 6) : wholeOf w (cs.map (·.body)) = joinText ((w : Int) - 6) cs := by
  unfold wholeOf joinText
  have hb : ∀ p ∈ cs.map (·.body), p.length ≤ w - 6 := by
    intro p h
    obtain ⟨c, hc, rfl⟩ := List.mem_map.mp h
    exact hp c hc
  have hne' : cs.map (·.body) ≠ [] := by simpa using hne
  have hl : cs.length = (cs.map (·.body)).length := by rw [List.length_map]
  rw [hl]
  generalize cs.map (·.body) = bs at hb hne'
  obtain ⟨ini, z, rfl⟩ : ∃ ini z, bs = ini ++ [z] := ⟨bs.dropLast, bs.getLast hne', (List.dropLast_concat_getLast hne').symm⟩
  rw [jpart_all, List.dropLast_concat]
  congr 1
  · congr 1
    exact List.map_congr_left fun p h => padTo_law p w hw (hb p (List.mem_append_left _ h))
  · simp
def HRel (w : Nat) : Option Held → List Card → Int → Prop
  | none, [], _ => True
  | some h, c0 :: r, ct => h.line = c0.line ∧ readLabel c0.label = some h.lab ∧ h.parts = (c0 :: r).map (·.body) ∧ ct = r.length ∧ ∀ c ∈ c0 :: r, c.body.length ≤ w - 6
  | _, _, _ => False
theorem flush_law {w : Nat} (hw : 9 ≤ w ∧ w ≤ 14) {hd : Option Held} {cs : List Card} {ct : Int} (h : HRel w hd cs ct) (st : List Stm) : lawFlush w st hd = flush ((w : Int) - 6) st cs := by
  cases hd with
  | none =>
    cases cs with
    | nil => rfl
    | cons c r => exact h.elim
  | some x =>
    cases cs with
    | nil => exact h.elim
    | cons c0 r =>
      obtain ⟨h1, h2, h3, h4, h5⟩ := h
      unfold lawFlush flush joinedR
      dsimp only
      rw [h3, whole_eq w hw (c0 :: r) (by simp) h5, h1, h2]
      by_cases hb : nb (joinText ((w : Int) - 6) (c0 :: r)) = []
      · rw [if_pos hb, if_pos hb]
      · rw [if_neg hb, if_neg hb]
        rfl
def cardsFrom (w : Nat) (rows : List Tx) (k : Nat) : List Card := ((rows.zipIdx k).filter (fun p => !isComment p.1 w)).map fun p => cardOf p.2 p.1 w
theorem cardsFrom_cons (w : Nat) (row : Tx) (rows : List Tx) (k : Nat) : cardsFrom w (row :: rows) k = if isComment row w = true then cardsFrom w rows (k + 1) else cardOf k row w :: cardsFrom w rows (k + 1) := by
  unfold cardsFrom
  rw [List.zipIdx_cons, List.filter_cons]
  cases isComment row w <;> simp
theorem card_body (k : Nat) (row : Tx) (w : Nat) : (cardOf k row w).body = (row.take w).drop 6 := seenB row w
theorem endRow_skip (w : Nat) (hw : 9 ≤ w ∧ w ≤ 14) : lawSkip endRow w = false ∧ isMark0 (lawSeen endRow w) = true := by
  obtain ⟨h1, h2⟩ := hw
  have : w = 9 ∨ w = 10 ∨ w = 11 ∨ w = 12 ∨ w = 13 ∨ w = 14 := by omega
  rcases this with rfl | rfl | rfl | rfl | rfl | rfl <;> exact ⟨by decide +kernel, by decide +kernel⟩
theorem law_go {w : Nat} (hw : 9 ≤ w ∧ w ≤ 14) {most : Int} {n : Nat} : ∀ (rows : List Tx) (i : Nat) (st : List Stm) (hd : Option Held) (cs : List Card) (ct : Int), HRel w hd cs ct → n = i + rows.length →
    lawGo n w most (rows ++ [endRow]) i st hd ct = match stGo ((w : Int) - 6) most (cardsFrom w rows (i + 1)) st cs with
      | .error e => .error e
      | .ok (o, r) => flush ((w : Int) - 6) o r
  | [], i, st, hd, cs, ct, h, hn => by
    have hs := endRow_skip w hw
    rw [List.nil_append, lawGo]
    unfold lawTurn
    rw [if_neg (by rw [hs.1]; decide), if_pos hs.2, flush_law hw h]
    show _ = flush ((w : Int) - 6) st cs
    cases flush ((w : Int) - 6) st cs with
    | error e => rfl
    | ok st' =>
      have : i = n := by simpa using hn.symm
      dsimp only
      rw [if_pos this]
  | row :: rows, i, st, hd, cs, ct, h, hn => by
    have hn' : n = (i + 1) + rows.length := by rw [hn, List.length_cons]; omega
    have hin : i ≠ n := by rw [hn, List.length_cons]; omega
    have IH := fun st hd cs ct h => law_go hw (most := most) rows (i + 1) st hd cs ct h hn'
    rw [List.cons_append, lawGo]
    unfold lawTurn
    rw [cardsFrom_cons, skip_eq _ _ hw]
    cases hsk : isComment row w with
    | true =>
      rw [if_pos rfl, if_pos rfl]
      exact IH st hd cs ct h
    | false =>
      rw [if_neg Bool.false_ne_true, if_neg Bool.false_ne_true, stGo, stStep, mark_eq (i + 1) _ _ hw]
      have hlab : (cardOf (i + 1) row w).label = (lawSeen row w).take 5 := (seen5 row w hw).symm
      have hbl : ((row.take w).drop 6).length ≤ w - 6 := by rw [List.length_drop, List.length_take]; omega
      cases hct : isCont (cardOf (i + 1) row w) with
      | false =>
        rw [Bool.not_false, if_pos rfl, if_neg (by decide), flush_law hw h]
        cases flush ((w : Int) - 6) st cs with
        | error e => rfl
        | ok st' =>
          dsimp only
          rw [if_neg hin, hlab, readLabel_law]
          by_cases hd1 : (nb ((lawSeen row w).take 5)).all isDig = false
          · rw [if_pos hd1, if_pos hd1]
            rfl
          · rw [if_neg hd1, if_neg hd1]
            by_cases hd2 : nb ((lawSeen row w).take 5) ≠ [] ∧ labV (nb ((lawSeen row w).take 5)) = 0
            · rw [if_pos hd2, if_pos hd2]
              rfl
            · rw [if_neg hd2, if_neg hd2]
              dsimp only
              refine IH _ _ [cardOf (i + 1) row w] _ ⟨rfl, ?_, ?_, rfl, ?_⟩
              · rw [hlab, readLabel_law, if_neg hd1, if_neg hd2]
              · rw [List.map_singleton, card_body]
              · intro c hc
                rw [List.mem_singleton.mp hc, card_body]
                exact hbl
      | true =>
        rw [Bool.not_true, if_neg (by decide), if_pos rfl]
        cases hd with
        | none =>
          cases cs with
          | nil => rfl
          | cons c r => exact h.elim
        | some x =>
          cases cs with
          | nil => exact h.elim
          | cons c0 r =>
            obtain ⟨h1, h2, h3, h4, h5⟩ := h
            have hl5 : (lawSeen row w).take 5 ≠ blanks 5 ↔ nb (cardOf (i + 1) row w).label ≠ [] := by
              rw [hlab, Ne, Ne, nb_nil, is_blanks]
              have : ((lawSeen row w).take 5).length = 5 := by
                rw [List.length_take, lawSeen_eq _ _ (by omega), List.length_append, blanks_len, List.length_take]
                omega
              rw [this]
              simp
            have hcd : x.parts.headD [] = c0.body := by rw [h3]; rfl
            have hch : chkBad (cardOf (i + 1) row w) (c0 :: r) most = (decide ((lawSeen row w).take 5 ≠ blanks 5 ∨ most < ct + 1) || decide (nb (x.parts.headD []) = [69, 78, 68])) := by
              unfold chkBad
              dsimp only
              rw [hcd, h4]
              congr 1
              have : ((r.length + 1 : Nat) : Int) = (r.length : Int) + 1 := by omega
              rw [this, Bool.eq_iff_iff]
              simp only [Bool.or_eq_true, Bool.not_eq_true', decide_eq_true_eq, decide_eq_false_iff_not]
              rw [hl5]
            dsimp only
            rw [hch]
            by_cases hb1 : (lawSeen row w).take 5 ≠ blanks 5 ∨ most < ct + 1
            · rw [if_pos hb1, decide_eq_true hb1, Bool.true_or, if_pos rfl]
              rfl
            · rw [if_neg hb1, decide_eq_false hb1, Bool.false_or]
              by_cases hb2 : nb (x.parts.headD []) = [69, 78, 68]
              · rw [if_pos hb2, decide_eq_true hb2, if_pos rfl]
                rfl
              · rw [if_neg hb2, decide_eq_false hb2, if_neg (by decide)]
                dsimp only
                refine IH _ _ (c0 :: r ++ [cardOf (i + 1) row w]) _ ⟨h1, h2, ?_, ?_, ?_⟩
                · show x.parts ++ _ = (c0 :: r ++ [cardOf (i + 1) row w]).map (·.body)
                  rw [h3, List.map_append, List.map_singleton, card_body]
                · show ct + 1 = ((r ++ [cardOf (i + 1) row w]).length : Int)
                  rw [h4, List.length_append]
                  rfl
                · intro c hc
                  replace hc : c ∈ (c0 :: r) ++ [cardOf (i + 1) row w] := hc
                  rcases List.mem_append.mp hc with hc | hc
                  · exact h5 c hc
                  · rw [List.mem_singleton.mp hc, card_body]
                    exact hbl
theorem cards_cut (w : Nat) (rows : List Tx) : readCards w (cutLast rows) = readCards w rows := by
  unfold cutLast
  split
  case isFalse => rfl
  case isTrue h =>
    have hne : rows ≠ [] := by rintro rfl; cases h
    have e : rows = rows.dropLast ++ [[]] := by
      have h1 := List.dropLast_concat_getLast hne
      have h2 : rows.getLast hne = [] := by
        rw [List.getLast?_eq_some_getLast hne] at h
        exact Option.some.inj h
      rw [h2] at h1
      exact h1.symm
    conv => rhs; rw [e, readCards_snoc]
    rw [if_pos]
    unfold isComment nb
    simp
theorem law_eq {x : Str} {wd most : Int} (hw : 9 ≤ wd ∧ wd ≤ 14) : lawR (rowsOf x) wd.toNat most = readR wd most x := by
  unfold lawR readR stmtsR
  rw [law_go (w := wd.toNat) (by omega) (rowsOf x) 0 [] none [] 0 trivial (by simp), cards_cut]
  have e : ((wd.toNat : Int)) - 6 = wd - 6 := by omega
  rw [e]
  rfl
def stmOk (q : Stm) : Prop := okT q.tx
theorem okT.flatten {ps : List Tx} (h : ∀ p ∈ ps, okT p) : okT ps.flatten := by
  intro c hc
  obtain ⟨p, hp, hcp⟩ := List.mem_flatten.mp hc
  exact h p hp c hcp
theorem wholeOf_ok {w : Nat} {ps : List Tx} (h : ∀ p ∈ ps, okT p) : okT (wholeOf w ps) := by
  refine okT.app (okT.flatten fun p hp => ?_) ?_
  · obtain ⟨q, hq, rfl⟩ := List.mem_map.mp hp
    exact ((h q (List.dropLast_subset _ hq)).app (okT.blanks _)).take _
  · cases hl : ps.getLast? with
    | none => rw [List.getLastD_eq_getLast?, hl]; intro c hc; cases hc
    | some z => rw [List.getLastD_eq_getLast?, hl]; exact h z (List.mem_of_getLast? hl)
theorem lawFlush_ok {w : Nat} {st st' : List Stm} {hd : Option Held} (h : ∀ q ∈ st, okT q.tx) (hh : ∀ x ∈ hd, ∀ p ∈ x.parts, okT p) (e : lawFlush w st hd = .ok st') : ∀ q ∈ st', okT q.tx := by
  unfold lawFlush at e
  cases hd with
  | none =>
    cases e
    exact h
  | some x =>
    dsimp only at e
    split at e
    · cases e
    · cases e
      intro q hq
      rcases List.mem_append.mp hq with hq | hq
      · exact h q hq
      · rw [List.mem_singleton.mp hq]
        exact wholeOf_ok (hh x rfl)
theorem lawGo_ok {n w : Nat} {most : Int} : ∀ (rows : List Tx) (i : Nat) (st : List Stm) (hd : Option Held) (ct : Int) (qs : List Stm), (∀ r ∈ rows, okT r) → (∀ q ∈ st, okT q.tx) → (∀ x ∈ hd, ∀ p ∈ x.parts, okT p) →
    lawGo n w most rows i st hd ct = .ok qs → ∀ q ∈ qs, okT q.tx
  | [], i, st, hd, ct, qs, hr, hs, hh, e => by
    cases e
    exact hs
  | row :: rows, i, st, hd, ct, qs, hr, hs, hh, e => by
    have IH := fun st hd ct => lawGo_ok (n := n) (w := w) (most := most) rows (i + 1) st hd ct qs (fun r h => hr r (.tail _ h))
    have hrow := hr row (.head _)
    have hbd : okT ((row.take w).drop 6) := (hrow.take _).drop _
    rw [lawGo] at e
    unfold lawTurn at e
    split at e
    case h_1 st' hd' ct' ht =>
      split at ht
      · cases ht
        exact IH _ _ _ hs hh e
      · split at ht
        · split at ht
          · cases ht
          · rename_i hf
            have hs' := lawFlush_ok hs hh hf
            split at ht
            · cases ht
            · split at ht
              · cases ht
              · split at ht
                · cases ht
                · cases ht
                  refine IH _ _ _ hs' ?_ e
                  intro x hx p hp
                  cases hx
                  rw [List.mem_singleton.mp hp]
                  exact hbd
        · split at ht
          · cases ht
          · split at ht
            · cases ht
            · split at ht
              · cases ht
              · cases ht
                refine IH _ _ _ hs ?_ e
                intro x hx p hp
                cases hx
                rcases List.mem_append.mp hp with hp | hp
                · exact hh _ rfl p hp
                · rw [List.mem_singleton.mp hp]
                  exact hbd
    case h_2 => cases e
    case h_3 st' ht =>
      cases e
      split at ht
      · cases ht
      · split at ht
        · split at ht
          · cases ht
          · rename_i hf
            have hs' := lawFlush_ok hs hh hf
            split at ht
            · cases ht
              exact hs'
            · split at ht
              · cases ht
              · split at ht
                · cases ht
                · cases ht
        · split at ht
          · cases ht
          · split at ht
            · cases ht
            · split at ht
              · cases ht
              · cases ht
theorem lawR_ok {rows : List Tx} {w : Nat} {most : Int} {qs : List Stm} (hr : ∀ r ∈ rows, okT r) (e : lawR rows w most = .ok qs) : ∀ q ∈ qs, okT q.tx :=
  lawGo_ok _ _ _ _ _ _ (fun r h => (List.mem_append.mp h).elim (hr r) fun h => by rw [List.mem_singleton.mp h]; exact endRow_ok) (by intro q hq; cases hq) (by intro x hx; cases hx) e
end
theorem flush_PL {prog : Program} {w : World} {A : Around} {env : Env} {Q : Flow → Shared → Prop} {E : Value → Shared → Prop} {s : Shared} (h : wpAny (model prog w) A (execs [] env) Q E s) : wpAny (model prog w) A (execs [] env) Q E s := by
  w_top off
  first | (walk1; fail) | exact h
section
def ShortT (v : Value) : Prop := ∃ (r : Tx) (t : Tok), v = .str (S r) t ∧ r.length ≤ 12 ∧ okT r
theorem S_of' (x : Str) : x = S x.cps.toList := Str.ext' (by simp [S])
theorem shortT {x : Str} {t : Tok} (h1 : decide (x.cps.toList.length ≤ 12) = true) (h2 : x.cps.toList.all (fun c => decide (c < 1114112)) = true) : ShortT (.str x t) :=
  ⟨x.cps.toList, t, by rw [← S_of'], of_decide_eq_true h1, fun c hc => of_decide_eq_true (List.all_eq_true.mp h2 c hc)⟩
theorem shorts_nil : ∀ v ∈ ([] : List Value), ShortT v := fun _ h => nomatch h
theorem shorts_cons {x : Str} {t : Tok} {vs : List Value} (h1 : decide (x.cps.toList.length ≤ 12) = true) (h2 : x.cps.toList.all (fun c => decide (c < 1114112)) = true) (h : ∀ v ∈ vs, ShortT v) : ∀ v ∈ Value.str x t :: vs, ShortT v :=
  List.forall_mem_cons.mpr ⟨shortT h1 h2, h⟩
theorem c_labels {w : World} {mean : ExcName → Option Value} {mg mb : Str → Option Value} {dp un : Nat} {gd : Option (List Code)} {cn : Str} {cs' : Scope} {a : Addr} {ccd : Value} {cl : List (Str × Addr)} {outer : List Env} {A₀ : Around} {base h₀ : Heap} {L : Addr} {m : Str → Option Value} {s : Shared} {Q E : Value → Shared → Prop} {news : List (Addr × Obj)} 
  (B : Below A₀ base outer h₀) (F : Fr h₀ L s.heap m) (X : (Mine.hd.heap_1 w.params).In h₀) (N : News h₀ L s.heap news) (T : Top VW LS mean mg mb h₀) (hk : cs'.kind = .function) (hd : dp + 1 < recursionLimit) (hu : un + 16 < cLine)
  
  (hret : ∀ (h' : Heap) (tk' : Nat) (D : Addr) (vs : List Value) (n : Nat), Fr h₀ L h' m → News h₀ L h' ((D, listOf vs.toArray n) :: news) → (∀ p ∈ news, p.1 < D) → (∀ v ∈ vs, ShortT v) → vs.length = 8 → Q (.ref D) { s with heap := h', toks := tk' }) :
  wpAny (model PySem.Challenge.rw_no0232_01.row.prog w) (ktrTop dp un gd cn cs' L a ccd cl outer) (call (.ref 180) []) Q E s := by
  revert X
  k_fill
  intro X

  refine wpAny_call ?_
  k_dflt cell_enter
  k_steps
  rename News h₀ _ _ _ => kN
  rename Fr h₀ _ _ _ => kF
  rename ∀ p ∈ news, p.1 < _ => kl
  refine hret _ _ _ [_, _, _, _, _, _, _, _] _ kF kN kl ?_ rfl
  iterate 8 (refine shorts_cons (by decide +kernel) (by decide +kernel) ?_)
  exact shorts_nil
theorem c_marks {w : World} {mean : ExcName → Option Value} {mg mb : Str → Option Value} {dp un : Nat} {gd : Option (List Code)} {cn : Str} {cs' : Scope} {a : Addr} {ccd : Value} {cl : List (Str × Addr)} {outer : List Env} {A₀ : Around} {base h₀ : Heap} {L : Addr} {m : Str → Option Value} {s : Shared} {Q E : Value → Shared → Prop} {news : List (Addr × Obj)} 
  (B : Below A₀ base outer h₀) (F : Fr h₀ L s.heap m) (X : (Mine.hd.heap_1 w.params).In h₀) (N : News h₀ L s.heap news) (T : Top VW LS mean mg mb h₀) (hk : cs'.kind = .function) (hd : dp + 1 < recursionLimit) (hu : un + 16 < cLine)
  
  (hret : ∀ (h' : Heap) (tk' : Nat) (D : Addr) (vs : List Value) (n : Nat), Fr h₀ L h' m → News h₀ L h' ((D, listOf vs.toArray n) :: news) → (∀ p ∈ news, p.1 < D) → (∀ v ∈ vs, ShortT v) → vs.length = 5 → Q (.ref D) { s with heap := h', toks := tk' }) :
  wpAny (model PySem.Challenge.rw_no0232_01.row.prog w) (ktrTop dp un gd cn cs' L a ccd cl outer) (call (.ref 187) []) Q E s := by
  revert X
  k_fill
  intro X

  refine wpAny_call ?_
  k_dflt cell_enter
  k_steps
  rename News h₀ _ _ _ => kN
  rename Fr h₀ _ _ _ => kF
  rename ∀ p ∈ news, p.1 < _ => kl
  refine hret _ _ _ [_, _, _, _, _] _ kF kN kl ?_ rfl
  iterate 5 (refine shorts_cons (by decide +kernel) (by decide +kernel) ?_)
  exact shorts_nil
theorem c_bodies {w : World} {mean : ExcName → Option Value} {mg mb : Str → Option Value} {dp un : Nat} {gd : Option (List Code)} {cn : Str} {cs' : Scope} {a : Addr} {ccd : Value} {cl : List (Str × Addr)} {outer : List Env} {A₀ : Around} {base h₀ : Heap} {L : Addr} {m : Str → Option Value} {s : Shared} {Q E : Value → Shared → Prop} {news : List (Addr × Obj)} 
  (B : Below A₀ base outer h₀) (F : Fr h₀ L s.heap m) (X : (Mine.hd.heap_1 w.params).In h₀) (N : News h₀ L s.heap news) (T : Top VW LS mean mg mb h₀) (hk : cs'.kind = .function) (hd : dp + 1 < recursionLimit) (hu : un + 16 < cLine)
  
  (hret : ∀ (h' : Heap) (tk' : Nat) (D : Addr) (vs : List Value) (n : Nat), Fr h₀ L h' m → News h₀ L h' ((D, listOf vs.toArray n) :: news) → (∀ p ∈ news, p.1 < D) → (∀ v ∈ vs, ShortT v) → vs.length = 9 → Q (.ref D) { s with heap := h', toks := tk' }) :
  wpAny (model PySem.Challenge.rw_no0232_01.row.prog w) (ktrTop dp un gd cn cs' L a ccd cl outer) (call (.ref 194) []) Q E s := by
  revert X
  k_fill
  intro X

  refine wpAny_call ?_
  k_dflt cell_enter
  k_steps
  rename News h₀ _ _ _ => kN
  rename Fr h₀ _ _ _ => kF
  rename ∀ p ∈ news, p.1 < _ => kl
  refine hret _ _ _ [_, _, _, _, _, _, _, _, _] _ kF kN kl ?_ rfl
  iterate 9 (refine shorts_cons (by decide +kernel) (by decide +kernel) ?_)
  exact shorts_nil
end
theorem flush_T1 {prog : Program} {w : World} {A : Around} {env : Env} {Q : Flow → Shared → Prop} {E : Value → Shared → Prop} {s : Shared} (h : wpAny (model prog w) A (execs [] env) Q E s) : wpAny (model prog w) A (execs [] env) Q E s := by
  w_top off
  first | (walk1; fail) | exact h
section
local macro_rules | `(tactic| walk_at "call ref") => `(tactic| (k_here; refine Stop.out ?_))
local macro_rules | `(tactic| walk_at "subscriptTail Name BinOp ref int") => `(tactic| (k_here; refine Stop.out ?_))
local macro_rules | `(tactic| walk_at "subscriptTail List BinOp ref int") => `(tactic| (k_here; refine Stop.out ?_))
theorem lit_PAST : Str.ofString "PAST" = S [80, 65, 83, 84] := by decide +kernel
local macro_rules | `(tactic| walk_at "binaryOp Add str str") => `(tactic| (k_here; (with_reducible show wpAny _ _ (binaryOp _ (Value.str _ _) (Value.str _ _)) _ _ _); k_dflt (refine' S_addW ?hx ?hy ?ha ?hb ?_; (case hx => exact rfl); (case hy => first | exact lit_5 | exact lit_PAST); (case ha => (first | assumption | omega | ((try simp only [List.length_append, List.length_take, List.length_drop, List.length_cons, List.length_nil, List.length_singleton, Mine.blanks_len]); omega) | (simp only [List.length_append, List.length_take, List.length_drop, List.length_cons, List.length_nil, List.length_singleton, Mine.blanks_len] at *; omega) | decide +kernel)); (case hb => (first | assumption | omega | ((try simp only [List.length_append, List.length_take, List.length_drop, List.length_cons, List.length_nil, List.length_singleton, Mine.blanks_len]); omega) | (simp only [List.length_append, List.length_take, List.length_drop, List.length_cons, List.length_nil, List.length_singleton, Mine.blanks_len] at *; omega) | decide +kernel)); k_whole); intro t' k'))
section
variable {prog : Program} {w : World} {A : Around} {E : Value → Shared → Prop} {s : Shared} {h₀ : Heap} {L l : Addr} {news : List (Addr × Obj)} {value slice : PySem.Expr} {vs : List Value} {n : Nat} {Q : Value → Shared → Prop} {u : Tok}
theorem item_pick {k : Int} {c : Nat} (N : News h₀ L s.heap news) (hm : (l, listOf vs.toArray n) ∈ news) (hv : ∀ v ∈ vs, ShortT v) (hl : vs.length = c) (hc : c ≤ 100) (h0 : 0 ≤ k) (hi : k < c) (h : ∀ r t, r.length ≤ 12 → okT r → Q (.str (S r) t) s)
    (hs : subscripted slice false (.ref l) (.int k u) = operate [.ref l, .int k u] (getItem (.ref l) (.int k u)) := by with_unfolding_all rfl) :
    wpAny (model prog w) A (subscriptTail value slice (.ref l) (.int k u)) Q E s := by
  have hk : k.toNat < vs.length := by omega
  obtain ⟨r, t, e, h1, h2⟩ := hv _ (List.getElem_mem hk)
  refine item_newsN (i := k.toNat) N hm (List.getElem?_eq_getElem hk) (by omega) (by omega) ?_ hs
  rw [e]
  exact h r t h1 h2
theorem fm (n : Int) {c : Int} (hc : 0 < c) : 0 ≤ n.fmod c ∧ n.fmod c < c := ⟨Int.fmod_nonneg_of_pos _ hc, Int.fmod_lt_of_pos _ hc⟩
end
theorem c_row {w : World} {mean : ExcName → Option Value} {mg mb : Str → Option Value} {dp un : Nat} {gd : Option (List Code)} {cn : Str} {cs' : Scope} {a : Addr} {ccd : Value} {cl : List (Str × Addr)} {outer : List Env} {A₀ : Around} {base h₀ : Heap} {L : Addr} {m : Str → Option Value} {s : Shared} {Q E : Value → Shared → Prop} {news : List (Addr × Obj)} {n wd : Int} {t1 t2 : Tok}
  (B : Below A₀ base outer h₀) (F : Fr h₀ L s.heap m) (X : (Mine.hd.heap_1 w.params).In h₀) (N : News h₀ L s.heap news) (T : Top VW LS mean mg mb h₀) (hk : cs'.kind = .function) (hd : dp + 4 < recursionLimit) (hu : un + 60 < cLine)
  (hw : 9 ≤ wd ∧ wd ≤ 14)
  (hret : ∀ (r : Tx) (t : Tok) (h' : Heap) (tk' : Nat), r.length ≤ 30 → okT r → Fr h₀ L h' m → News h₀ L h' news → Q (.str (S r) t) { s with heap := h', toks := tk' }) :
  wpAny (model PySem.Challenge.rw_no0232_01.row.prog w) (ktrTop dp un gd cn cs' L a ccd cl outer) (call (.ref 201) [.int n t1, .int wd t2]) Q E s := by
  revert X
  k_fill
  intro X

  refine wpAny_call ?_
  k_dflt cell_enter
  k_steps
  refine Stop.go ?_
  refine c_labels (by k_asm) (by k_asm) (by k_asm) (by k_asm) (by k_asm) rfl (by ktr_room) (by ktr_units) ?_
  intro h1 tk1 D1 vs1 n1 F1 N1 l1 hs1 hl1
  k_steps
  refine Stop.go ?_
  refine item_pick (c := 8) N1 (.head _) hs1 hl1 (by decide) (fm _ (by decide)).1 (fm _ (by decide)).2 ?_
  intro lb tb hlb hlo
  k_steps
  refine Stop.go ?_
  refine c_marks (by k_asm) (by k_asm) (by k_asm) (by k_asm) (by k_asm) rfl (by ktr_room) (by ktr_units) ?_
  intro h2 tk2 D2 vs2 n2 F2 N2 l2 hs2 hl2
  k_steps
  refine Stop.go ?_
  refine item_pick (c := 5) N2 (.head _) hs2 hl2 (by decide) (fm _ (by decide)).1 (fm _ (by decide)).2 ?_
  intro mk tm hmk hmo
  k_steps
  refine Stop.go ?_
  refine c_bodies (by k_asm) (by k_asm) (by k_asm) (by k_asm) (by k_asm) rfl (by ktr_room) (by ktr_units) ?_
  intro h3 tk3 D3 vs3 n3 F3 N3 l3 hs3 hl3
  k_steps
  refine Stop.go ?_
  refine item_pick (c := 9) N3 (.head _) hs3 hl3 (by decide) (fm _ (by decide)).1 (fm _ (by decide)).2 ?_
  intro bd td hbd hbo
  have hnn : 0 ≤ n.fmod 9 := (fm _ (by decide)).1
  have h20 := fm (n.fdiv 9) (c := 20) (by decide)
  have hwn : wd.toNat ≤ 14 := by omega
  have hmb : (((lb ++ blanks 5).take 5 ++ mk) ++ bd).length ≤ 29 := by
    simp only [List.length_append, List.length_take]
    omega
  have hob : okT (((lb ++ blanks 5).take 5 ++ mk) ++ bd) := (((hlo.app (okT.blanks 5)).take 5).app hmo).app hbo
  k_steps
  · refine Stop.go ?_
    rename News _ _ _ _ => Nx
    refine item_pick (c := 3) Nx (vs := [_, _, _]) (.head _) (shorts_cons (by decide +kernel) (by decide +kernel) (shorts_cons (by decide +kernel) (by decide +kernel) (shorts_cons (by decide +kernel) (by decide +kernel) shorts_nil))) rfl (by decide) (fm _ (by decide)).1 (fm _ (by decide)).2 ?_
    intro cc tc hcl hco
    k_steps
    rename News h₀ _ _ _ => kN
    rename Fr h₀ _ _ _ => kF
    exact hret _ _ _ _ (by rw [List.length_append]; omega) (hco.app hbo) kF (fun p hp => kN p (.tail _ (.tail _ (.tail _ (.tail _ hp)))))
  · rename News h₀ _ _ _ => kN
    rename Fr h₀ _ _ _ => kF
    exact hret _ _ _ _ (by rw [blanks_len]; omega) (okT.blanks _) kF (fun p hp => kN p (.tail _ (.tail _ (.tail _ hp))))
  · rename News h₀ _ _ _ => kN
    rename Fr h₀ _ _ _ => kF
    exact hret _ _ _ _ (by omega) hlo kF (fun p hp => kN p (.tail _ (.tail _ (.tail _ hp))))
  · rename News h₀ _ _ _ => kN
    rename Fr h₀ _ _ _ => kF
    exact hret _ _ _ _ (by rw [List.length_append, List.length_take]; simp only [List.length_cons, List.length_nil]; omega) (((hob.app (okT.blanks _)).take _).app (by unfold okT; decide)) kF (fun p hp => kN p (.tail _ (.tail _ (.tail _ hp))))
  · rename News h₀ _ _ _ => kN
    rename Fr h₀ _ _ _ => kF
    exact hret _ _ _ _ (Nat.le_trans hmb (by decide)) hob kF (fun p hp => kN p (.tail _ (.tail _ (.tail _ hp))))
end
theorem flush_TR {prog : Program} {w : World} {A : Around} {env : Env} {Q : Flow → Shared → Prop} {E : Value → Shared → Prop} {s : Shared} (h : wpAny (model prog w) A (execs [] env) Q E s) : wpAny (model prog w) A (execs [] env) Q E s := by
  w_top off
  first | (walk1; fail) | exact h
section
section
open Builtin Builtin.ObjectAttr
variable {w : World} {A : Around} {E : Value → Shared → Prop} {s : Shared} {h₀ : Heap} {L e : Addr} {m : Str → Option Value}
theorem get_exc {oe : Obj} {es : List DictEntry} {n : Nat} {name : Str} {v : Value} {expr : Bool} {Q : Value → Shared → Prop} (F : Fr h₀ L s.heap m) (X₀ : (Mine.hd.heap_1 w.params).In h₀) (I : InstAt s.heap e oe 51 (some (dictOf es n)))
    (ha : findIn (Mine.hd.heap_1 w.params) (.ref 51) name = some none) (hl : getL name es = some (some v)) (hv : handedIn v = true) (h : Q v { s with toks := s.toks + 1 }) :
    wpAny (model PySem.Challenge.rw_no0232_01.row.prog w) A (getAttr (.ref e) name expr) Q E s := by
  have X := X₀.keeps F.keep
  revert X₀
  k_fill
  intro X₀
  have hga : findIn (Mine.hd.heap_1 w.params) (.ref 51) "__getattribute__" = some (some (.builtin "BaseException.__getattribute__")) := by kernel_rfl
  have hgt : findIn (Mine.hd.heap_1 w.params) (.ref 51) "__getattr__" = some none := by kernel_rfl
  have hhd : hasDictIn (Mine.hd.heap_1 w.params) 51 = true := by kernel_rfl
  have hmro : mroIn (Mine.hd.heap_1 w.params) 51 (.type "BaseException") = some true := by k_is
  have hf : findObj (Mine.hd.heap_1 w.params) 51 (some (dictOf es n)) name = some (.value v) := findObj_own hhd ha rfl (by show lookIn name (dictOf es n) = _; rw [lookIn_dict, hl])
  have sub : Looks (model PySem.Challenge.rw_no0232_01.row.prog w) s.heap (isInstance (.ref e) (.type "BaseException")) true := I.type.andThen (looks_mroIn X hmro)
  have L0 := I.type (M := model PySem.Challenge.rw_no0232_01.row.prog w)
  have L1 := looks_findIn (M := model PySem.Challenge.rw_no0232_01.row.prog w) X hga
  have L2 := looks_findIn (M := model PySem.Challenge.rw_no0232_01.row.prog w) X hgt
  have L3 := looks_find (M := model PySem.Challenge.rw_no0232_01.row.prog w) X I hf
  have FB := PySem.F.attr_Exception
  have f3 := FB.ga.bind (.ref e)
  have hk : builtinKind "BaseException.__getattribute__" = some .slot := by decide +kernel
  have hs : splitId "BaseException.__getattribute__" = some ("BaseException", "__getattribute__") := by decide +kernel
  obtain ⟨hh', g, d, t, os⟩ := s
  unfold getAttr getAttrBy
  refine wpAny_bind (wpAny_mkText (wpAny_holding (wpAny_bind (L0.at (wpAny_bind (L1.at ?_))))))
  show wpAny _ _ (getAttrByItsOwn _ _ _ _ _ _) _ _ _
  unfold getAttrByItsOwn
  refine wpAny_bind ?_
  show wpAny _ _ (typeLookup _ _) _ _ _
  refine L2.at ?_
  have hx0 : (expr && onTheHeap (Value.builtin "BaseException.__getattribute__")) = false := by cases expr <;> rfl
  unfold callGetattribute
  rw [hx0]
  repeat (any_goals (first | assumption | wp_step))
  refine codeAny_call_builtin FB.ga.plain PySem.F.entry_bexc_ga (@check_slot (model PySem.Challenge.rw_no0232_01.row.prog w) _ _ ⟨hh', g, d, t + 1, os⟩ "BaseException.__getattribute__" "BaseException" "__getattribute__" (.ref e) [.str name t] [] _ hk hs sub (PySem.F.args_bexc_ga _ _) ?_)
  refine wpAny_bind (wpAny_pure ?_)
  dsimp only [List.cons_append, List.nil_append]
  refine wpAny_bind (wpAny_pure (wpAny_bind (L0.at (wpAny_bind (L3.at ?_)))))
  refine wpAny_pure ?_
  show wpAny _ _ (handedOut v) _ _ _
  rw [handedOut_of hv]
  exact wpAny_pure h
theorem handleBy_51 {env : Env} {t : PySem.Expr} {n : Str} {b₀ : Stmt} {suite : List Stmt} {pos : Pos} {rest : List ExceptHandler} {Q : Flow → Shared → Prop}
    (h : wpAny (model PySem.Challenge.rw_no0232_01.row.prog w) (A.mark (some (.ref e))) (eval t env) (fun c s₁ => c = .ref 51 ∧ (Mine.hd.heap_1 w.params).In s₁.heap ∧ (∃ oe, s₁.heap.get? e = some oe ∧ oe.cls = .ref 51) ∧
      wpAny (model PySem.Challenge.rw_no0232_01.row.prog w) (A.mark (some (.ref e))) (setFlight (.ref e) none) (fun _ s₂ =>
          wpAny (model PySem.Challenge.rw_no0232_01.row.prog w) (A.mark (some (.ref e))) (storeName env n (.ref e)) (fun _ s₃ =>
            wpAny (model PySem.Challenge.rw_no0232_01.row.prog w) (A.mark (some (.ref e))) (execs (b₀ :: suite) env)
              (fun f s₄ => wpAny (model PySem.Challenge.rw_no0232_01.row.prog w) A (do bindName env n .none; unbindBehindTheSuite env n pos) (fun _ s₅ => Q f s₅) E s₄)
              (AsSuiteRaised (model PySem.Challenge.rw_no0232_01.row.prog w) (A.mark (some (.ref e))) env n pos (notedBy (model PySem.Challenge.rw_no0232_01.row.prog w) (A.mark (some (.ref e))) env (cameBackBy (model PySem.Challenge.rw_no0232_01.row.prog w) A env E))) s₃) (notedBy (model PySem.Challenge.rw_no0232_01.row.prog w) (A.mark (some (.ref e))) env (cameBackBy (model PySem.Challenge.rw_no0232_01.row.prog w) A env E)) s₂) (notedBy (model PySem.Challenge.rw_no0232_01.row.prog w) (A.mark (some (.ref e))) env (cameBackBy (model PySem.Challenge.rw_no0232_01.row.prog w) A env E)) s₁) (notedBy (model PySem.Challenge.rw_no0232_01.row.prog w) (A.mark (some (.ref e))) env (cameBackBy (model PySem.Challenge.rw_no0232_01.row.prog w) A env E)) s) :
    wpAny (model PySem.Challenge.rw_no0232_01.row.prog w) A (handleBy (.ref e) env (.ExceptHandler (some t) (some n) (b₀ :: suite) pos :: rest)) Q E s := by
  refine wpAny_handleBy_cons (codeAny_handlers_test (wpAny_mono h (fun c s₁ h₁ => ?_) fun _ _ y => y)) (by intro q; cases q)
  obtain ⟨rfl, X, ⟨oe, he, hcls⟩, hk⟩ := h₁
  obtain ⟨nm, q', N, bs, bm, hdct, sn, sub, ab, col, dd, k0, k1, k2, k3, k5, newId, hC, hbase, hbT⟩ := kts_cls (C := 51) (T := "BaseException") X (by kernel_rfl)
  obtain ⟨hh, g, d, tk, os⟩ := s₁
  exact wpAny_excMatches_sub_self hC he hcls hbase (codeAny_handlers_suite_as hk)
theorem caught_SE {env : Env} {outer : List Env} {g₂ : Heap} {i : Int} {news : List (Addr × Obj)} {x n : Str} {np pos : Pos} {b₀ : Stmt} {suite : List Stmt} {rest : List ExceptHandler} {Q : Flow → Shared → Prop}
    (hf : env.frame = some L) (hfr : A.frames = some (env :: outer)) (F : Fr h₀ L g₂ m) (hsm : g₂.UpToSlots s.heap) (R : RaisedSE w h₀ (env :: outer) e i news s.heap) (X : (Mine.hd.heap_1 w.params).In h₀)
    (hname : ∀ (h₅ : Heap) (Q' : Value → Shared → Prop) (E' : Value → Shared → Prop), Fr h₀ L h₅ m → Q' (.ref 51) { s with heap := h₅ } → wpAny (model PySem.Challenge.rw_no0232_01.row.prog w) (A.mark (some (.ref e))) (eval (.Name x np) env) Q' E' { s with heap := h₅ })
    (k : ∀ (h' : Heap) (oe : Obj) (dx : Addr) (x' : Str) (u t k1 k2 : Tok) (n' : Nat), Fr h₀ L h' m → News h₀ L h' ((e, oe) :: (dx, seD w x' u i t k1 k2 n') :: news) → oe.cls = .ref 51 → notCls oe = true → oe.dict = some dx →
          wpAny (model PySem.Challenge.rw_no0232_01.row.prog w) (A.mark (some (.ref e))) (storeName env n (.ref e)) (fun _ s₃ =>
            wpAny (model PySem.Challenge.rw_no0232_01.row.prog w) (A.mark (some (.ref e))) (execs (b₀ :: suite) env)
              (fun f s₄ => wpAny (model PySem.Challenge.rw_no0232_01.row.prog w) A (do bindName env n .none; unbindBehindTheSuite env n pos) (fun _ s₅ => Q f s₅) E s₄)
              (AsSuiteRaised (model PySem.Challenge.rw_no0232_01.row.prog w) (A.mark (some (.ref e))) env n pos (notedBy (model PySem.Challenge.rw_no0232_01.row.prog w) (A.mark (some (.ref e))) env (cameBackBy (model PySem.Challenge.rw_no0232_01.row.prog w) A env E))) s₃) (notedBy (model PySem.Challenge.rw_no0232_01.row.prog w) (A.mark (some (.ref e))) env (cameBackBy (model PySem.Challenge.rw_no0232_01.row.prog w) A env E)) { s with heap := h' }) :
    wpAny (model PySem.Challenge.rw_no0232_01.row.prog w) A (noteFrame (.ref e) env)
      (fun _ s₂ => wpAny (model PySem.Challenge.rw_no0232_01.row.prog w) A (setFlight (.ref e) none) (fun _ s₃ =>
        wpAny (model PySem.Challenge.rw_no0232_01.row.prog w) A (handleBy (.ref e) env (.ExceptHandler (some (.Name x np)) (some n) (b₀ :: suite) pos :: rest)) Q E s₃) E s₂) E s := by
  obtain ⟨B, dx, x', u, t, k1, k2, n', hB, hl, hA, he0, hdx, hdx0⟩ := R
  have hL : B.get? L = none := by
    obtain ⟨_, ⟨L', _, hf', hn', _⟩, _⟩ := hA.2.2.1
    rw [hf] at hf'
    obtain rfl : L = L' := Option.some.inj hf'
    exact hn'
  refine fl_note hfr hf hA fun h₄ hA₄ hU₄ => ?_
  refine fl_setFlight hA₄ fun h₅ hA₅ hU₅ => ?_
  have S₅ : h₀.StaysIn h₅ := fun b o q => hA₅.1 b o (hB b o q)
  have U₅ := hsm.trans (hU₄.trans hU₅)
  have F₅ : Fr h₀ L h₅ m := F.of_stays S₅ U₅
  refine handleBy_51 (hname h₅ _ _ F₅ ⟨rfl, X.keeps F₅.keep, ?_, ?_⟩)
  · obtain ⟨oe, vs, T, oT, ts, a1, a2, _⟩ := hA₅.2.2.2
    exact ⟨oe, a1, a2⟩
  · refine fl_setFlight hA₅ fun h₆ hA₆ hU₆ => ?_
    have S₆ : h₀.StaysIn h₆ := fun b o q => hA₆.1 b o (hB b o q)
    have F₆ : Fr h₀ L h₆ m := F.of_stays S₆ (U₅.trans hU₆)
    obtain ⟨oe, vs, T, oT, ts, a1, a2, a3, a4, _⟩ := hA₆.2.2.2
    have hd6 := hA₆.1 _ _ hdx
    have neL : e ≠ L := by
      intro q
      obtain ⟨_, o, ho, hnf⟩ := hA₆.2.2.1.mem (b := L) (List.mem_filterMap.mpr ⟨env, .head _, hf⟩)
      rw [q, ho] at a1
      cases a1
      exact hnf _ a4
    refine k h₆ oe dx x' u t k1 k2 n' F₆ (fun q hq => ?_) a2 ?_ a3
    · rcases List.mem_cons.mp hq with rfl | hq
      · exact ⟨a1, neL, he0⟩
      · rcases List.mem_cons.mp hq with rfl | hq
        · exact ⟨hd6, (fun z => by dsimp only at z; rw [z, hL] at hdx; cases hdx), hdx0⟩
        · exact ⟨hA₆.1 _ _ (hl q hq).1, (fun z => by have := (hl q hq).1; rw [z, hL] at this; cases this), (hl q hq).2⟩
    · unfold notCls
      rw [a4]
theorem get_excN {oe : Obj} {dx : Addr} {es : List DictEntry} {n : Nat} {news : List (Addr × Obj)} {name : Str} {v : Value} {expr : Bool} {Q : Value → Shared → Prop} (F : Fr h₀ L s.heap m) (X₀ : (Mine.hd.heap_1 w.params).In h₀) (N : News h₀ L s.heap news) (h1 : (e, oe) ∈ news) (h2 : (dx, dictOf es n) ∈ news)
    (hc : oe.cls = .ref 51) (hn : notCls oe = true) (hdx : oe.dict = some dx) (ha : findIn (Mine.hd.heap_1 w.params) (.ref 51) name = some none) (hl : getL name es = some (some v)) (hv : handedIn v = true) (h : Q v { s with toks := s.toks + 1 }) :
    wpAny (model PySem.Challenge.rw_no0232_01.row.prog w) A (getAttr (.ref e) name expr) Q E s :=
  get_exc F X₀ ⟨N.get h1, hc, hn, by rw [hdx]; exact N.get h2⟩ ha hl hv h
theorem name_goes_any {M : Model} {A : Around} {E : Value → Shared → Prop} {s : Shared} {h₀ : Heap} {L : Addr} {m : Str → Option Value} {news : List (Addr × Obj)} {env : Env} {n : Str} {pos : Pos} {Q : Unit → Shared → Prop} (hL : env.locals = L) (hp : (env.scope.kind == .class || (env.scope.kind == .module && env.locals != env.globals)) = false) (hl : env.kindOf n = some .local) (F : Fr h₀ L s.heap m) (N : News h₀ L s.heap news)
    (h : ∀ h' v, Fr h₀ L h' (fun x => if x = n then v else m x) → News h₀ L h' news → Q () { s with heap := h', toks := s.toks + 1 }) :
    wpAny M A (do bindName env n .none; unbindBehindTheSuite env n pos) Q E s := by
  subst hL
  exact wpAny_nameGoes_keeps hl F.ns hp fun h' v hn hs => h h' v (F.set hn hs) (N.set hs)
end
end
theorem flush_CT {prog : Program} {w : World} {A : Around} {env : Env} {Q : Flow → Shared → Prop} {E : Value → Shared → Prop} {s : Shared} (h : wpAny (model prog w) A (execs [] env) Q E s) : wpAny (model prog w) A (execs [] env) Q E s := by
  w_top off
  first | (walk1; fail) | exact h
section
open PySem.Spec PySem.SeqAt
def stmD (q : Stm) : PyData := .tuple [.int q.line, .int q.lab, .str (S q.tx)]
theorem reads_stms {h₀ h : Heap} {L : Addr} {own news : List (Addr × Obj)} (N : News h₀ L h news) (hs : ∀ p ∈ own, p ∈ news) : ∀ {vs : List Value} {qs : List Stm}, StmsAt own vs qs → ReadsAll h vs (qs.map stmD) []
  | _, _, .nil => .nil
  | _, _, .cons (d := d) hm r => by
    refine .cons (as := []) (bs := []) ?_ (reads_stms N hs r)
    refine reads_tuple_at (N.get (hs _ hm)) rfl rfl ?_
    exact .cons (as := []) (bs := []) (.int _ _) (.cons (as := []) (bs := []) (.int _ _) (.cons (as := []) (bs := []) (.str _ _) .nil))
theorem canLay_stms {qs : List Stm} (h : ∀ q ∈ qs, okT q.tx) : PyData.canLayAll0 (qs.map stmD) = true := by
  induction qs with
  | nil => rfl
  | cons q qs ih =>
    simp only [List.map_cons, PyData.canLayAll0, Bool.and_eq_true]
    refine ⟨?_, ih fun r hr => h r (.tail _ hr)⟩
    unfold stmD
    simp only [PyData.canLay0, PyData.canLayAll0, Bool.and_eq_true]
    exact ⟨trivial, trivial, strOk_S (h q (.head _)), trivial⟩
theorem depth_stms (qs : List Stm) : PyData.depthAll (qs.map stmD) ≤ 1 := by
  induction qs with
  | nil => decide
  | cons q qs ih =>
    simp only [List.map_cons, PyData.depthAll]
    have : PyData.depth (stmD q) = 1 := rfl
    rw [this]
    omega
theorem shaped_stms {qs : List Stm} (h : ∀ q ∈ qs, okT q.tx) : shaped (.list (qs.map stmD)) = true := by
  unfold shaped
  rw [show PyData.canLay0 (.list (qs.map stmD)) = PyData.canLayAll0 (qs.map stmD) from rfl, canLay_stms h]
  have := depth_stms qs
  simp only [PyData.depth]
  simp
  omega
section
variable {prog : Program} {w : World} {A : Around} {E : Value → Shared → Prop} {s : Shared} {h₀ : Heap} {L a b : Addr} {news own1 own2 : List (Addr × Obj)} {vs us : List Value} {qs : List Stm} {n k : Nat} {Q : Value → Shared → Prop}
theorem eq_stms (N : News h₀ L s.heap news) (ha : (a, listOf vs.toArray n) ∈ news) (hb : (b, listOf us.toArray k) ∈ news) (h1 : ∀ p ∈ own1, p ∈ news) (h2 : ∀ p ∈ own2, p ∈ news) (S1 : StmsAt own1 vs qs) (S2 : StmsAt own2 us qs) (hq : ∀ q ∈ qs, okT q.tx) (hu : A.units + 64 < cLine)
    (h : Q (.bool true) s) : wpAny (model prog w) A (compareOp .Eq (.ref a) (.ref b)) Q E s := by
  have r1 := reads_stms N h1 S1
  have r2 := reads_stms N h2 S2
  refine eq_dataH (reads_list_at (N.get ha) rfl rfl (by simpa using r1)) (reads_list_at (N.get hb) rfl rfl (by simpa using r2)) (shaped_stms hq) (shaped_stms hq) hu ?_
  rw [eqv_refl _ (show PyData.canLay0 (.list (qs.map stmD)) = true from canLay_stms hq)]
  exact h
end
theorem lim_of {w : World} {h₀ h : Heap} {L lm dx : Addr} {wd most : Int} {k1 k2 k3 k4 k5 k6 k7 k8 t1 t2 t3 t4 t5 t6 t7 t8 : Tok} {n : Nat} {news : List (Addr × Obj)} (_N : News h₀ L h news) (h1 : (lm, instObj 169 dx) ∈ news) (h2 : (dx, dictOf [⟨PyData.keyHash w.params (Str.ofString "width"), .str (Str.ofString "width") k1, .int 32 t1⟩, ⟨PyData.keyHash w.params (Str.ofString "real_digits"), .str (Str.ofString "real_digits") k2, .int 7 t2⟩,
      ⟨PyData.keyHash w.params (Str.ofString "double_digits"), .str (Str.ofString "double_digits") k3, .int 15 t3⟩, ⟨PyData.keyHash w.params (Str.ofString "top_exponent"), .str (Str.ofString "top_exponent") k4, .int 38 t4⟩,
      ⟨PyData.keyHash w.params (Str.ofString "steps"), .str (Str.ofString "steps") k5, .int 1000000 t5⟩, ⟨PyData.keyHash w.params (Str.ofString "continuations"), .str (Str.ofString "continuations") k6, .int most t6⟩,
      ⟨PyData.keyHash w.params (Str.ofString "columns"), .str (Str.ofString "columns") k7, .int wd t7⟩, ⟨PyData.keyHash w.params (Str.ofString "depth"), .str (Str.ofString "depth") k8, .int 40 t8⟩] n) ∈ news) : LimAt w news lm wd most :=
  ⟨dx, k1, k2, k3, k4, k5, k6, k7, k8, t1, t2, t3, t4, t5, t6, t7, t8, n, h1, h2⟩
end
theorem flush_CQ {prog : Program} {w : World} {A : Around} {env : Env} {Q : Flow → Shared → Prop} {E : Value → Shared → Prop} {s : Shared} (h : wpAny (model prog w) A (execs [] env) Q E s) : wpAny (model prog w) A (execs [] env) Q E s := by
  w_top off
  first | (walk1; fail) | exact h
section
local macro_rules | `(tactic| k_qdec) => `(tactic| decide +kernel)
local macro_rules | `(tactic| walk_at "call ref") => `(tactic| (k_here; (with_reducible show wpAny _ _ (call (Value.ref 201) _ _) _ _ _); refine Stop.out ?_))
local macro_rules | `(tactic| walk_at "call ref") => `(tactic| (k_here; (with_reducible show wpAny _ _ (call (Value.ref 206) _ _) _ _ _); refine Stop.out ?_))
local macro_rules | `(tactic| walk_at "call ref") => `(tactic| (k_here; (with_reducible show wpAny _ _ (call (Value.ref 151) _ _) _ _ _); refine Stop.out ?_))
local macro_rules | `(tactic| walk_at "exec If") => `(tactic| (k_here; refine Stop.out ?_))
local macro_rules | `(tactic| walk_at "eval ListComp") => `(tactic| (k_here; refine Stop.out ?_))
local macro_rules | `(tactic| walk_at "exec Assign cons ListComp") => `(tactic| (k_here; refine Stop.out ?_))
local macro_rules | `(tactic| walk_at "call builtin:str.join") => `(tactic| (k_here; refine Stop.out ?_))
local macro_rules | `(tactic| walk_at "exec Try") => `(tactic| (k_here; refine Stop.out ?_))
local macro_rules | `(tactic| walk_at "compareOp Eq ref ref") => `(tactic| (k_here; refine Stop.out ?_))
local macro_rules | `(tactic| walk_at "subscriptTail Name Slice ref ref") => `(tactic| (k_here; (with_reducible show wpAny _ _ (subscriptTail _ (Expr.Slice (some _) none none _) _ _) _ _ _); refine Stop.out ?_))
local macro_rules | `(tactic| walk_at "inplaceOp Add str str") => `(tactic| (k_here; refine Stop.out ?_))
def RowV (v : Value) : Prop := ∃ (r : Tx) (t : Tok), v = .str (S r) t ∧ r.length ≤ 30 ∧ okT r
section
variable {M : Model} {A : Around} {E : Value → Shared → Prop} {s : Shared} {h₀ : Heap} {L : Addr}
theorem cut_next {x : Sem Flow} {Q : Flow → Shared → Prop} (R : Shared → Prop) (h1 : wpAny M A x (fun f s' => f = .next ∧ R s') E s) (h2 : ∀ s', R s' → Q .next s') : wpAny M A x Q E s :=
  wpAny_mono h1 (fun f s' h => by obtain ⟨rfl, h⟩ := h; exact h2 s' h) fun _ _ e => e
theorem cut_next' {x : Sem Flow} {Q : Flow → Shared → Prop} {m : Str → Option Value} {news : List (Addr × Obj)} (F : Fr h₀ L s.heap m) (N : News h₀ L s.heap news) (R : Shared → Prop) (h1 : wpAny M A x (fun f s' => f = .next ∧ R s') E s) (h2 : ∀ s', R s' → Q .next s') : wpAny M A x Q E s := cut_next R h1 h2
theorem fr_dup {h : Heap} {k : Str} {a b : Option Value} {m : Str → Option Value} (F : Fr h₀ L h (fun y => if y = k then a else if y = k then b else m y)) : Fr h₀ L h (fun y => if y = k then a else m y) := by
  have e : (fun y => if y = k then a else if y = k then b else m y) = fun y => if y = k then a else m y := by
    funext y
    by_cases h : y = k
    · rw [if_pos h, if_pos h]
    · rw [if_neg h, if_neg h, if_neg h]
  rw [← e]
  exact F
theorem paired_rows {vs ys : List Value} (hi : ∀ v ∈ vs, ∃ n t, v = .int n t) (h : Paired (fun v y => ∀ n t, v = .int n t → RowV y) vs ys) : ∃ rs, TextsAre ys rs ∧ rs.length = vs.length ∧ ∀ r ∈ rs, r.length ≤ 30 ∧ okT r := by
  induction h with
  | nil => exact ⟨[], .nil, rfl, fun _ h => nomatch h⟩
  | cons h1 _ ih =>
    obtain ⟨n, t, e⟩ := hi _ (.head _)
    obtain ⟨r, u, rfl, a, b⟩ := h1 n t e
    obtain ⟨rs, c1, c2, c3⟩ := ih fun v hv => hi v (.tail _ hv)
    exact ⟨r :: rs, .cons _ _ c1, by simp [c2], List.forall_mem_cons.mpr ⟨⟨a, b⟩, c3⟩⟩
theorem texts_lit {x : Str} {t : Tok} {vs : List Value} (h1 : decide (x.cps.toList.length ≤ 30) = true) (h2 : x.cps.toList.all (fun c => decide (c < 1114112)) = true) (h : ∃ rs, TextsAre vs rs ∧ rs.length = vs.length ∧ ∀ r ∈ rs, r.length ≤ 30 ∧ okT r) :
    ∃ rs, TextsAre (.str x t :: vs) rs ∧ rs.length = (Value.str x t :: vs).length ∧ ∀ r ∈ rs, r.length ≤ 30 ∧ okT r := by
  obtain ⟨rs, c1, c2, c3⟩ := h
  refine ⟨x.cps.toList :: rs, ?_, by simp [c2], List.forall_mem_cons.mpr ⟨⟨of_decide_eq_true h1, fun c hc => of_decide_eq_true (List.all_eq_true.mp h2 c hc)⟩, c3⟩⟩
  have := TextsAre.cons x.cps.toList t c1
  rwa [← S_of'] at this
def RowsSet (h₀ : Heap) (L : Addr) (s : Shared) (m : Str → Option Value) (tl : List (Addr × Obj)) (s' : Shared) : Prop :=
  ∃ (D : Addr) (ys : List Value) (n : Nat) (rs : List Tx) (h' : Heap) (tk' : Nat), TextsAre ys rs ∧ rs.length ≤ 24 ∧ (∀ r ∈ rs, r.length ≤ 30 ∧ okT r) ∧ s' = { s with heap := h', toks := tk' } ∧ Fr h₀ L h' (fun y => if y = Str.ofString "rows" then some (.ref D) else m y) ∧ News h₀ L h' ((D, listOf ys.toArray n) :: tl)
theorem cut_rows {x : Sem Flow} {Q : Flow → Shared → Prop} {m : Str → Option Value} {tl : List (Addr × Obj)} (v : Value) (p : Addr × Obj) (_F : Fr h₀ L s.heap (fun y => if y = Str.ofString "rows" then some v else m y)) (_N : News h₀ L s.heap (p :: tl)) (h1 : wpAny M A x (fun f s' => f = .next ∧ RowsSet h₀ L s m tl s') E s)
    (h2 : ∀ D ys n rs h' tk', TextsAre ys rs → rs.length ≤ 24 → (∀ r ∈ rs, r.length ≤ 30 ∧ okT r) → Fr h₀ L h' (fun y => if y = Str.ofString "rows" then some (.ref D) else m y) → News h₀ L h' ((D, listOf ys.toArray n) :: tl) → Q .next { s with heap := h', toks := tk' }) : wpAny M A x Q E s :=
  wpAny_mono h1 (fun f s' h => by obtain ⟨rfl, D, ys, n, rs, h', tk', a1, a2, a3, rfl, F, N⟩ := h; exact h2 D ys n rs h' tk' a1 a2 a3 F N) fun _ _ e => e
def TextSet (h₀ : Heap) (L : Addr) (s : Shared) (m : Str → Option Value) (news : List (Addr × Obj)) (s' : Shared) : Prop :=
  ∃ (x : Tx) (t : Tok) (h' : Heap) (tk' : Nat), x.length ≤ 900 ∧ okT x ∧ s' = { s with heap := h', toks := tk' } ∧ Fr h₀ L h' (fun y => if y = Str.ofString "text" then some (.str (S x) t) else m y) ∧ News h₀ L h' news
theorem cut_text {x : Sem Flow} {Q : Flow → Shared → Prop} {m : Str → Option Value} {news : List (Addr × Obj)} (v : Value) (_F : Fr h₀ L s.heap (fun y => if y = Str.ofString "text" then some v else m y)) (_N : News h₀ L s.heap news) (h1 : wpAny M A x (fun f s' => f = .next ∧ TextSet h₀ L s m news s') E s)
    (h2 : ∀ x t h' tk', x.length ≤ 900 → okT x → Fr h₀ L h' (fun y => if y = Str.ofString "text" then some (.str (S x) t) else m y) → News h₀ L h' news → Q .next { s with heap := h', toks := tk' }) : wpAny M A x Q E s :=
  wpAny_mono h1 (fun f s' h => by obtain ⟨rfl, x, t, h', tk', a1, a2, rfl, F, N⟩ := h; exact h2 x t h' tk' a1 a2 F N) fun _ _ e => e
theorem lit_nl : Str.ofString "\n" = S [10] := by decide +kernel
theorem mem_joinL (sp : Tx) : ∀ (rs : List Tx), ∀ r ∈ rs, ∀ c ∈ r, c ∈ joinL sp rs
  | [], _, h, _, _ => nomatch h
  | [x], r, h, c, hc => by rw [List.mem_singleton.mp h] at hc; exact hc
  | x :: y :: q, r, h, c, hc => by
    rcases List.mem_cons.mp h with rfl | h
    · exact List.mem_append_left _ (List.mem_append_left _ hc)
    · exact List.mem_append_right _ (mem_joinL sp (y :: q) r h c hc)
theorem rowsOf_ok {x : Tx} (h : okT x) : ∀ r ∈ rowsOf (S x), okT r := by
  have e1 : (Txt.split (S x) (Str.ofString "\n")) = (rowsOf (S x)).map S := by
    unfold rowsOf
    rw [List.map_map]
    refine (List.map_id' _).symm.trans (List.map_congr_left fun p _ => ?_)
    exact S_of' p
  have e2 := StrLaws.join_split (S x) (Str.ofString "\n")
  rw [e1, lit_nl, join_S] at e2
  have e3 : joinL [10] (rowsOf (S x)) = x := S_inj.mp e2
  intro r hr c hc
  refine h c ?_
  rw [← e3]
  exact mem_joinL _ _ r hr c hc
theorem S_iadd {prog : Program} {w : World} {x y : Str} {t u : Tok} {a b : Tx} {Q : Value → Shared → Prop} (hx : x = S a) (hy : y = S b) (ha : a.length ≤ 100000) (hb : b.length ≤ 100000) (h : ∀ t' k, Q (.str (S (a ++ b)) t') { s with toks := k }) : wpAny (model prog w) A (inplaceOp .Add (.str x t) (.str y u)) Q E s := by
  subst hx hy
  refine PyProof.Rows.iadd_str (fun t' k => ?_) (by rw [sizeLine_eq, S_len, S_len]; omega)
  rw [S_app]
  exact h t' k
/-- behind the width's If -/
def WidthSet (h₀ : Heap) (L : Addr) (s : Shared) (m : Str → Option Value) (D c : Addr) (o : Obj) (s' : Shared) : Prop :=
  ∃ (wd : Int) (t : Tok) (oc : Obj) (h' : Heap) (tk' : Nat), (9 ≤ wd ∧ wd ≤ 14) ∧ oc.data = .cell (some (.int wd t)) ∧ s' = { s with heap := h', toks := tk' } ∧ Fr h₀ L h' m ∧ News h₀ L h' [(D, o), (c, oc)]
theorem cut_width {x : Sem Flow} {Q : Flow → Shared → Prop} {m : Str → Option Value} {D c : Addr} {o oc : Obj} (_F : Fr h₀ L s.heap m) (_N : News h₀ L s.heap [(D, o), (c, oc)]) (h1 : wpAny M A x (fun f s' => f = .next ∧ WidthSet h₀ L s m D c o s') E s)
    (h2 : ∀ wd t oc h' tk', 9 ≤ wd ∧ wd ≤ 14 → oc.data = .cell (some (.int wd t)) → Fr h₀ L h' m → News h₀ L h' [(D, o), (c, oc)] → Q .next { s with heap := h', toks := tk' }) : wpAny M A x Q E s :=
  wpAny_mono h1 (fun f s' h => by obtain ⟨rfl, wd, t, oc, h', tk', a, b, rfl, F, N⟩ := h; exact h2 wd t oc h' tk' a b F N) fun _ _ e => e
def MostSet (h₀ : Heap) (L : Addr) (s : Shared) (m : Str → Option Value) (news : List (Addr × Obj)) (s' : Shared) : Prop :=
  ∃ (most : Int) (t : Tok) (h' : Heap) (tk' : Nat), (0 ≤ most ∧ most ≤ 3) ∧ s' = { s with heap := h', toks := tk' } ∧ Fr h₀ L h' (fun y => if y = Str.ofString "most" then some (.int most t) else m y) ∧ News h₀ L h' news
theorem cut_most {x : Sem Flow} {Q : Flow → Shared → Prop} {m : Str → Option Value} {news : List (Addr × Obj)} (v : Value) (_F : Fr h₀ L s.heap (fun y => if y = Str.ofString "most" then some v else m y)) (_N : News h₀ L s.heap news) (h1 : wpAny M A x (fun f s' => f = .next ∧ MostSet h₀ L s m news s') E s)
    (h2 : ∀ most t h' tk', 0 ≤ most ∧ most ≤ 3 → Fr h₀ L h' (fun y => if y = Str.ofString "most" then some (.int most t) else m y) → News h₀ L h' news → Q .next { s with heap := h', toks := tk' }) : wpAny M A x Q E s :=
  wpAny_mono h1 (fun f s' h => by obtain ⟨rfl, wd, t, h', tk', a, rfl, F, N⟩ := h; exact h2 wd t h' tk' a F N) fun _ _ e => e
end
theorem law_holds : PySem.Challenge.rw_no0232_01.Holds := hd (by
  (k_go0; (all_goals try k_fold); k_steps)
  refine Stop.go ?_
  rename News _ _ _ _ => N1
  rename Fr _ _ _ _ => F1
  rename IntsAre _ (List.take 24 _) => hI
  rename List Int => ks
  rename List Value => ws
  refine cut_width F1 N1 ?a1 ?a2
  case a1 =>
    refine wpAny_If ?_
    k_steps
    · rename Obj.data _ = _ => kd
      rename News _ _ _ _ => kN
      rename Fr _ _ _ _ => kF
      have hf := fm ((List.take 24 ks).getD (0 : Int).toNat 0) (c := 6) (by decide)
      refine ⟨_, _, _, _, _, ⟨?_, ?_⟩, kd, rfl, kF, kN⟩
      · have := hf.1; omega
      · have := hf.2; omega
    · rename Obj.data _ = _ => kd
      exact ⟨9, _, _, _, _, by decide, kd, rfl, F1, N1⟩
  case a2 =>
    intro wd tw oc h1 tk1 hw dc F2 N2
    clear F1 N1
    rename Obj.data _ = Data.cell (some (Value.int 9 _)) => d9
    clear d9
    k_steps
    refine Stop.go ?_
    rename News _ _ _ _ => N3
    rename Fr _ _ _ _ => F3
    refine cut_most _ F3 N3 ?b1 ?b2
    case b1 =>
      refine wpAny_If ?_
      k_steps
      · rename News _ _ _ _ => kN
        rename Fr _ _ _ _ => kF
        have hf := fm ((List.take 24 ks).getD (1 : Int).toNat 0) (c := 4) (by decide)
        refine ⟨_, _, _, _, ?_, rfl, fr_dup kF, kN⟩
        have h1 := hf.1
        have h2 := hf.2
        constructor <;> omega
      · exact ⟨3, _, _, _, by decide, rfl, F3, N3⟩
    case b2 =>
      intro most tm h2 tk2 hm F4 N4
      clear F3 N3
      k_steps
      refine Stop.go ?_
      have hIl := hI.length
      refine comp_relA (fun v y => ∀ n t, v = .int n t → RowV y) (List.drop 2 ws) ?sz F4 N4 ?q1 ?q2 ?q3 (by with_unfolding_all rfl)
      case q1 =>
        k_steps
        refine Stop.go ?_
        refine slice_from2 F4 N4 (.head _) ?sy ?_
        case sy => rw [hIl, List.length_take]; omega
        intro D3 h3 F7 N7 l7
        exact ⟨D3, 0, _, _, rfl, rfl, F7, N7, fun p hp => Nat.ne_of_lt (l7 p hp)⟩
      case sz => rw [List.length_drop, hIl, List.length_take]; omega
      case q2 =>
        intro l' k' v I oI C oC D m₂ ys h5 tk5 E' hv hC hx F7 N7
        have hv2 := List.mem_of_mem_drop hv
        obtain ⟨nn, tn, rfl⟩ := hI.all v hv2
        have hx' : m₂ (Str.ofString "n") = some (.int nn tn) := hx
        clear F4 N4
        k_steps
        refine Stop.go ?_
        rename News _ _ _ _ => N8
        rename Fr _ _ _ _ => F8
        refine c_row (by k_asm) F8 (by k_asm) N8 (by k_asm) rfl (by ktr_room) (by ktr_units) hw ?_
        intro r tr h6 tk6 hrl hro F9 N9
        clear F8 N8
        k_steps
        exact CutV.intro (fun _ _ _ => ⟨r, tr, rfl, hrl, hro⟩) F9 N9 (fun _ h => h)
      case q3 =>
        intro D3 ys n3 h3 tk3 F7 N7 o7 hP7
        clear F4 N4
        obtain ⟨rs, hT, hrs, hrok⟩ := paired_rows (fun v hv => hI.all v (List.mem_of_mem_drop hv)) hP7
        rw [List.length_drop, hIl, List.length_take] at hrs
        k_steps
        refine Stop.go ?_
        refine cut_rows _ _ F7 N7 ?d1 ?d2
        case d1 =>
          refine wpAny_If ?_
          k_steps
          refine Stop.go ?_
          rename News _ _ _ _ => Nx
          refine eq_nilK Nx (.tail _ (.head _)) (.head _) (reads_texts hT) (shaped_texts fun r hr => (hrok r hr).2) (by ktr_units) ?_
          k_steps
          · rename News _ _ _ _ => kN
            rename Fr _ _ _ _ => kF
            obtain ⟨rs5, b1, b2, b3⟩ := texts_lit (x := Str.ofString "  007 A=1") (t := _) (by decide +kernel) (by decide +kernel) (texts_lit (x := Str.ofString "     1+") (t := _) (by decide +kernel) (by decide +kernel) (texts_lit (x := Str.ofString "C") (t := _) (by decide +kernel) (by decide +kernel) (texts_lit (x := Str.ofString "      END") (t := _) (by decide +kernel) (by decide +kernel) ⟨[], .nil, rfl, fun _ h => nomatch h⟩)))
            exact ⟨_, _, _, rs5, _, _, b1, by rw [b2]; exact Nat.le_of_ble_eq_true rfl, b3, rfl, fr_dup kF, fun p hp => kN p (by rcases List.mem_cons.mp hp with rfl | hp; exact .head _; exact .tail _ (.tail _ (.tail _ hp)))⟩
          · rename Fr _ _ _ _ => kF
            exact ⟨_, _, _, rs, _, _, hT, by omega, hrok, rfl, kF, fun p hp => Nx p (.tail _ hp)⟩
        case d2 =>
          intro D4 ys4 n4 rs4 h4 tk4 hT4 hl4 hr4 F8 N8
          clear F7 N7
          k_steps
          refine Stop.go ?_
          rename News _ _ _ _ => N9
          refine join_T (sp := [10]) lit_nl N9 (.head _) hT4 (fun r hr => Nat.le_trans (hr4 r hr).1 (by decide)) (by omega) (by decide) ?_
          intro t' k'
          k_steps
          refine Stop.go ?_
          rename News _ _ _ _ => N10
          rename Fr _ _ _ _ => F10
          have hjl : (joinL [10] rs4).length ≤ 800 := by
            have h1 := joinL_len [10] rs4
            have h2 := sum_le fun r hr => (hr4 r hr).1
            simp only [List.length_cons, List.length_nil] at h1
            omega
          have hjo : okT (joinL [10] rs4) := joinL_ok (by unfold okT; decide) fun r hr => (hr4 r hr).2
          refine cut_text _ F10 N10 ?e1 ?e2
          case e1 =>
            refine wpAny_If ?_
            k_steps
            · refine Stop.go ?_
              refine S_iadd rfl lit_nl (by omega) (by decide) ?_
              intro t8 k8
              k_steps
              rename News _ _ _ _ => kN
              rename Fr _ _ _ _ => kF
              exact ⟨_, _, _, _, by rw [List.length_append, List.length_singleton]; omega, hjo.app (by unfold okT; decide), rfl, fr_dup kF, kN⟩
            · exact ⟨_, _, _, _, by omega, hjo, rfl, F10, N10⟩
          case e2 =>
            intro x tx h7 tk7 hxl hxo F11 N11
            clear F10 N10
            have hxs : (S x).length ≤ 900 := by rw [S_len]; exact hxl
            k_steps
            refine Stop.go ?_
            rename News _ _ _ _ => N12
            rename Fr _ _ _ _ => F12
            rename TextsAre _ (rowsOf _) => hT12
            have hrl := rowsOf_len (S x)
            have hrs := rowsOf_short (x := S x)
            have hro := rowsOf_ok hxo
            have hlim := lim_of (wd := wd) (most := most) N12 (by k_mem) (by k_mem)
            refine c_lr (by k_asm) F12 (by k_asm) N12 (by k_asm) rfl (by ktr_room) (by ktr_units) hT12 (by k_mem) (by omega) (fun r hr => Nat.le_trans (hrs r hr) (by omega)) hro hw hm ?g1 ?g2
            case g1 =>
              intro i hi ti h13 tk13 F13 N13
              clear F12 N12
              rw [law_eq hw] at hi
              k_steps
              refine Stop.go ?_
              refine wpAny_Try_except ?_
              k_steps
              refine Stop.go ?_
              rename News _ _ _ _ => N14
              rename Fr _ _ _ _ => F14
              refine c_rs (wd := wd) (most := most) (by k_asm) F14 (by k_asm) N14 (by k_asm) rfl (by ktr_room) (by ktr_units) hxs (hlim.mono fun _ h => h) hw ?r1 ?r2
              case r1 =>
                intro i' hi' e h15 tk15 g15 R15 U15 F15
                rw [hi] at hi'
                cases hi'
                dsimp only
                refine caught_SE rfl rfl F15 U15 R15 (by k_asm) ?hn ?hk
                case hn =>
                  intro h16 Q' E' F16 hQ
                  k_steps
                  exact hQ
                case hk =>
                  intro h16 oe dx x' u t k1 k2 n' F16 N16 hoc hon hod
                  clear F14 N14
                  k_steps
                  rename News _ _ _ _ => N17
                  rename Fr _ _ _ _ => F17
                  refine get_excN (dx := dx) F17 (by k_asm) N17 (.head _) (.tail _ (.head _)) hoc hon hod (by kernel_rfl) (by show getL _ _ = _; rfl) rfl ?_
                  k_steps
                  rename News _ _ _ _ => N19
                  rename Fr _ _ _ _ => F19
                  refine name_goes_any (by rfl) (by rfl) (by rfl) (by exact F19) (by exact N19) ?_
                  intro h20 v20 F20 N20
                  k_steps
              case r2 =>
                intro qs hqs
                rw [hi] at hqs
                cases hqs
            case g2 =>
              intro qs hqs h13 tk13 lf fs nf own F13 N13 hA hSt
              clear F12 N12
              have hqo := lawR_ok hro hqs
              rw [law_eq hw] at hqs
              k_steps
              refine Stop.go ?_
              refine wpAny_Try_except ?_
              k_steps
              refine Stop.go ?_
              rename News _ _ _ _ => N14
              rename Fr _ _ _ _ => F14
              refine c_rs (wd := wd) (most := most) (by k_asm) F14 (by k_asm) N14 (by k_asm) rfl (by ktr_room) (by ktr_units) hxs (hlim.mono fun _ h => .tail _ (List.mem_append_right _ h)) hw ?s1 ?s2
              case s1 =>
                intro i hi
                rw [hqs] at hi
                cases hi
              case s2 =>
                intro qs' hqs' h15 tk15 lo os no own' F15 N15 hA' hSt'
                rw [hqs] at hqs'
                cases hqs'
                clear F14 N14
                k_steps
                refine Stop.go ?_
                rename News _ _ _ _ => N18
                refine eq_stms (qs := qs) N18 (.head _) (.tail _ (List.mem_append_right _ (.head _))) (fun p hp => .tail _ (List.mem_append_left _ hp)) (fun p hp => .tail _ (List.mem_append_right _ (.tail _ (List.mem_append_left _ hp)))) hSt' hSt hqo (by ktr_units) ?_
                k_steps)
end
theorem flush_W1 {prog : Program} {w : World} {A : Around} {env : Env} {Q : Flow → Shared → Prop} {E : Value → Shared → Prop} {s : Shared} (h : wpAny (model prog w) A (execs [] env) Q E s) : wpAny (model prog w) A (execs [] env) Q E s := by
  w_top off
  first | (walk1; fail) | exact h
end Mine
theorem PySem.Challenge.cw_no0232_01_holds : PySem.Challenge.rw_no0232_01.Holds := by
  exact Mine.law_holds
