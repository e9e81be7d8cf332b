import PyProof.Rows.All
import Wide.All
import OpenK.AllK
import Wide.FinOn
import Lean
import PySem.Challenge.RW_pq1312_01
set_option Elab.async false
section
open PySem PySem.W PyProof.Rows
set_option maxRecDepth 100000
set_option maxHeartbeats 8000000
namespace Mine
open_top hd for PySem.Challenge.rw_pq1312_01
end Mine
end
section
open PySem PySem.W PyProof.Rows PySem.Spec PySem.Calls
set_option maxRecDepth 100000
set_option maxHeartbeats 8000000
namespace Mine
def Does (prog : Program) (w : World) (K : Frag) (p : Program) (loose : List Str) (mean : ExcName → Option Value) (mg mb : Str → Option Value) (f : Addr) (vs : List Value) (news : List (Addr × Obj)) (db ub : Nat) (Post : Value → List (Addr × Obj) → Prop) : Prop :=
  ∀ (dp un : Nat) (gd : Option (List Code)) (cn : Str) (cs : Scope) (a : Addr) (ccd : Value) (cl : List (Str × Addr)) (outer : List Env) (A₀ : Around) (base h₀ : Heap) (L : Addr) (m : Str → Option Value) (s : Shared) (Q E : Value → Shared → Prop),
    Below A₀ base outer h₀ → Fr h₀ L s.heap m → K.In h₀ → News h₀ L s.heap news → Top p loose mean mg mb h₀ → cs.kind = .function → dp < db → un < ub →
    (∀ r news' h' tk', Post r news' → Fr h₀ L h' m → News h₀ L h' news' → Q r { s with heap := h', toks := tk' }) →
      wpAny (model prog w) (ktrTop dp un gd cn cs L a ccd cl outer) (call (.ref f) vs) Q E s
theorem fm_lo (x m : Int) (h : 0 < m) : 0 ≤ x.fmod m := Int.fmod_nonneg_of_pos _ h
theorem fm_hi (x m : Int) (h : 0 < m) : x.fmod m < m := Int.fmod_lt_of_pos _ h
theorem fd_lo (x m : Int) (hx : 0 ≤ x) (h : 0 < m) : 0 ≤ x.fdiv m := Int.fdiv_nonneg hx (Int.le_of_lt h)
def Stop (P : Prop) : Prop := P
theorem Stop.out {P : Prop} (h : Stop P) : P := h
abbrev chr1 (c : Nat) : Str := ⟨#[c]⟩
section
variable {prog : Program} {w : World} {A : Around} {E : Value → Shared → Prop} {s : Shared} {h₀ : Heap} {L D : Addr} {m : Str → Option Value} {news news' : List (Addr × Obj)} {n : Nat}
theorem appendL {vs : List Value} {x : Value} {Q : Value → Shared → Prop} (F : Fr h₀ L s.heap m) (N : News h₀ L s.heap news)
    (U : Upd D (W.listOf vs.toArray n) (W.listOf (vs ++ [x]).toArray (n + 1)) news news') (hz : vs.length ≤ 100000)
    (h : ∀ h', Fr h₀ L h' m → News h₀ L h' news' → Q .none { s with heap := h' }) : wpAny (model prog w) A (call (.builtin "list.append") [.ref D, x]) Q E s := by
  have e : (vs ++ [x]).toArray = vs.toArray.push x := by simp
  rw [e] at U
  exact append_K F N U h (by rw [sizeLine_eq]; simp; omega)
end
theorem strsAt {vs : List Value} {out : List Nat} (h : StrsAre vs (out.map chr1)) {i : Nat} (hi : i < out.length) : ∃ t, vs[i]? = some (.str (chr1 (out.getD i 0)) t) := by
  induction out generalizing vs i with
  | nil => exact absurd hi (Nat.not_lt_zero _)
  | cons c r ih =>
    cases h with
    | cons x t hr =>
      cases i with
      | zero => exact ⟨t, rfl⟩
      | succ i => exact ih hr (Nat.lt_of_succ_lt_succ hi)
section
variable {prog : Program} {w : World} {A : Around} {E : Value → Shared → Prop} {s : Shared} {h₀ : Heap} {L l : Addr} {news : List (Addr × Obj)} {n : Nat}
theorem item_strs1 {value slice : Expr} {vs : List Value} {out : List Nat} {k : Int} {u : Tok} {Q : Value → Shared → Prop} (N : News h₀ L s.heap news) (hm : (l, W.listOf vs.toArray n) ∈ news)
    (hs1 : StrsAre vs (out.map chr1)) (h0 : 0 ≤ k) (h1 : k < out.length) (hf : out.length ≤ 100000) (h : ∀ t, Q (.str (chr1 (out.getD k.toNat 0)) t) s)
    (hs : subscripted slice false (.ref l) (.int k u) = operate [.ref l, .int k u] (getItem (.ref l) (.int k u)) := by with_unfolding_all rfl) :
    wpAny (model prog w) A (subscriptTail value slice (.ref l) (.int k u)) Q E s := by
  have hL : s.heap.IsList l vs.toArray := ⟨_, (N _ hm).1, rfl, _, rfl⟩
  obtain ⟨t, ht⟩ := strsAt hs1 (i := k.toNat) (by omega)
  exact tail_any hL.typeIs slot_list_getitem.lookup (wpAny_getItem_list hL h0 (by omega) (by simpa using ht) (h t)) hs
theorem len_vs {vs : List Value} {c : Nat} {Q : Value → Shared → Prop} (N : News h₀ L s.heap news) (hm : (l, W.listOf vs.toArray n) ∈ news) (e : vs.length = c) (hf : c ≤ 100000)
    (h : ∀ t k, Q (.int c t) { s with toks := k }) : wpAny (model prog w) A (call (.builtin "len") [.ref l]) Q E s := by
  have hL : s.heap.IsList l vs.toArray := ⟨_, (N _ hm).1, rfl, _, rfl⟩
  refine len_list hL (by simp; omega) ?_
  simp only [List.size_toArray, e]
  exact h _ _
end
theorem item_nat {x : Str} {i : Nat} (h : i < x.length) : Txt.item x (i : Int) = chr1 (x.cps.getD i 0) := by
  have := item_meets (x := x) (i := (i : Int)) ⟨by omega, by omega⟩
  simpa using this
theorem getD_get {x : Str} {i : Nat} (h : i < x.length) : x.cps.toList[i]? = some (x.cps.getD i 0) := by
  have h' : i < x.cps.size := h
  simp [h', Array.getD]
theorem dash_no {x : Str} {i : Nat} (hno : ∀ c ∈ x.cps.toList, c ≠ 45) (h : i < x.length) (e : (Txt.item x (i : Int) == Str.ofString "-") = true) : False := by
  rw [item_nat h] at e
  have e2 : chr1 (x.cps.getD i 0) = Str.ofString "-" := by simpa using e
  have e3 : (Str.ofString "-") = chr1 45 := by decide +kernel
  rw [e3] at e2
  have e4 : x.cps.getD i 0 = 45 := by injection e2 with e2; simpa using e2
  exact hno _ (List.mem_of_getElem? (getD_get h)) e4
theorem dash_noI {x : Str} {j : Int} (hno : ∀ c ∈ x.cps.toList, c ≠ 45) (h0 : 0 ≤ j) (h : j < x.length) (e : (Txt.item x j == Str.ofString "-") = true) : False := by
  obtain ⟨i, rfl⟩ := Int.eq_ofNat_of_zero_le h0
  exact dash_no hno (by omega) e
theorem strs_snoc1 {us : List Value} {ws : List Str} {x : Str} {t : Tok} (h : StrsAre us ws) : StrsAre (us ++ [.str x t]) (ws ++ [x]) := h.append' (.cons _ _ .nil)
theorem vl_le {vs : List Value} {x : Str} {i n : Nat} (h : StrsAre vs ((x.cps.toList.take i).map chr1)) (hi : i ≤ n) : vs.length ≤ n := by
  have e := StrsAre.length h
  rw [e, List.length_map, List.length_take]
  exact Nat.le_trans (Nat.min_le_left _ _) hi
theorem strs_next {vs : List Value} {x : Str} {i : Nat} {t : Tok} (h : StrsAre vs ((x.cps.toList.take i).map chr1)) (hi : i < x.length) : StrsAre (vs ++ [.str (Txt.item x (i : Int)) t]) ((x.cps.toList.take (i + 1)).map chr1) := by
  rw [List.take_add_one, getD_get hi, item_nat hi]
  simpa using strs_snoc1 h
theorem ne_app {d : Nat} {rest own : List (Addr × Obj)} {adr : List Addr} (h : AllLt d rest) (ho : OwnOff own adr) (hm : d ∈ adr) : ∀ q ∈ rest ++ own, q.1 ≠ d :=
  fun q hq => (List.mem_append.mp hq).elim (fun h' => Nat.ne_of_lt (kst_ltOf h q h')) fun h' => ho q h' _ hm
def pairsD (l : List (Nat × Nat)) : List (PyData × PyData) := l.map fun p => (.str (chr1 p.1), .str (chr1 p.2))
theorem chr1_inj {a b : Nat} (h : chr1 a = chr1 b) : a = b := by injection h with h; simpa using h
theorem lookup_pairsD (c : Nat) : ∀ l : List (Nat × Nat), PySem.Spec.lookup (.str (chr1 c)) (pairsD l) = (l.lookup c).map fun v => .str (chr1 v)
  | [] => rfl
  | (a, b) :: r => by
    show (if PySem.Spec.same (.str (chr1 a)) (.str (chr1 c)) = true then some (PyData.str (chr1 b)) else PySem.Spec.lookup (.str (chr1 c)) (pairsD r)) = _
    rw [PyProof.V.same_str, List.lookup_cons, lookup_pairsD c r]
    by_cases h : a = c
    · subst h; simp
    · have h2 : ¬ chr1 a = chr1 c := fun e => h (chr1_inj e)
      have h3 : (c == a) = false := by simp; exact fun e => h e.symm
      simp [h2, h3]
theorem lookup_take_none {bs ns : List Nat} (hnd : bs.Nodup) {i : Nat} (hi : i < bs.length) : (((bs.zip ns).take i).lookup (bs.getD i 0)) = none := by
  rw [List.lookup_eq_none_iff]
  intro p hp
  obtain ⟨j, hj, e⟩ := List.mem_iff_getElem.mp hp
  simp only [List.length_take, List.length_zip] at hj
  have e2 : p.1 = bs[j]'(by omega) := by rw [← e]; simp
  have e3 : bs.getD i 0 = bs[i] := by simp [hi]
  rw [e3, e2]
  refine bne_iff_ne.mpr ?_
  intro h
  have := (List.getElem_inj hnd).mp h
  omega
theorem pairsD_step {bs ns : List Nat} (hnd : bs.Nodup) (hl : bs.length ≤ ns.length) {i : Nat} (hi : i < bs.length) :
    PyProof.V.putD (.str (chr1 (bs.getD i 0))) (.str (chr1 (ns.getD i 0))) (pairsD ((bs.zip ns).take i)) = pairsD ((bs.zip ns).take (i + 1)) := by
  have hn : PySem.Spec.lookup (.str (chr1 (bs.getD i 0))) (pairsD ((bs.zip ns).take i)) = none := by rw [lookup_pairsD, lookup_take_none hnd hi]; rfl
  have hz : i < (bs.zip ns).length := by rw [List.length_zip]; omega
  have e : (bs.zip ns)[i]? = some (bs.getD i 0, ns.getD i 0) := by
    rw [List.getElem?_eq_getElem hz]
    simp [List.getD_eq_getElem?_getD, hi, show i < ns.length by omega]
  rw [PyProof.Rows.putD_absent hn, List.take_add_one, e]
  simp [pairsD]
theorem pairsD_len (l : List (Nat × Nat)) (i : Nat) : (pairsD (l.take i)).length ≤ i := by simp [pairsD]; omega
def SpreadPost (rest : List (Addr × Obj)) (out : List Nat) (r : Value) (news' : List (Addr × Obj)) : Prop :=
  ∃ (a : Nat) (vs : List Value) (n : Nat), r = .ref a ∧ StrsAre vs (out.map chr1) ∧ (∀ q ∈ rest, q.1 < a) ∧ news' = (a, W.listOf vs.toArray n) :: rest
end Mine
end
section
open PySem PySem.W PyProof.Rows PySem.Spec PySem.Calls
set_option maxRecDepth 100000
set_option maxHeartbeats 8000000
set_option pp.deepTerms false
set_option pp.deepTerms.threshold 6
namespace Mine
local macro_rules | `(tactic| walk_at "mine_no_such_node") => `(tactic| fail)
local macro_rules | `(tactic| walk_at "mine_no_such_node") => `(tactic| fail)
local macro_rules | `(tactic| walk_at "mine_no_such_node") => `(tactic| fail)
local macro_rules | `(tactic| walk_at "mine_no_such_node") => `(tactic| fail)
local macro_rules | `(tactic| walk_at "mine_no_such_node") => `(tactic| fail)
local macro_rules | `(tactic| walk_at "mine_no_such_node") => `(tactic| fail)
local macro_rules | `(tactic| walk_at "mine_no_such_node") => `(tactic| fail)
local macro_rules | `(tactic| walk_at "mine_no_such_node") => `(tactic| fail)
local macro_rules | `(tactic| walk_at "mine_no_such_node") => `(tactic| fail)
local macro_rules | `(tactic| walk_at "mine_no_such_node") => `(tactic| fail)
local macro_rules | `(tactic| walk_at "mine_no_such_node") => `(tactic| fail)
local macro_rules | `(tactic| walk_at "mine_no_such_node") => `(tactic| fail)
local macro_rules | `(tactic| walk_at "mine_no_such_node") => `(tactic| fail)
local macro_rules | `(tactic| walk_at "mine_no_such_node") => `(tactic| fail)
local macro_rules | `(tactic| walk_at "mine_no_such_node") => `(tactic| fail)
local macro_rules | `(tactic| walk_at "mine_no_such_node") => `(tactic| fail)
local macro_rules | `(tactic| walk_at "mine_no_such_node") => `(tactic| fail)
local macro_rules | `(tactic| walk_at "mine_no_such_node") => `(tactic| fail)
local macro_rules | `(tactic| walk_at "mine_no_such_node") => `(tactic| fail)
local macro_rules | `(tactic| walk_at "mine_no_such_node") => `(tactic| fail)
local macro_rules | `(tactic| walk_at "mine_no_such_node") => `(tactic| fail)
theorem pop0_K {prog : Program} {w : World} {A : Around} {E : Value → Shared → Prop} {s : Shared} {h₀ : Heap} {L D : Addr} {m : Str → Option Value} {news news' : List (Addr × Obj)} {n : Nat}
    {x : Value} {r : List Value} {u : Tok} {Q : Value → Shared → Prop} (F : Fr h₀ L s.heap m) (N : News h₀ L s.heap news)
    (U : Upd D (W.listOf (x :: r).toArray n) (W.listOf r.toArray (n + 1)) news news') (hz : r.length < 1000)
    (h : ∀ h', Fr h₀ L h' m → News h₀ L h' news' → Q x { s with heap := h' }) : wpAny (model prog w) A (call (.builtin "list.pop") [.ref D, .int 0 u]) Q E s := by
  refine kl_popAt (k := 0) (p := []) (q := r) (y := x) F N (by decide) ?_ rfl U ?_ h
  · unfold seqIndex?
    simp
  · rw [sizeLine_eq]; simp only [List.length_cons]; omega
local macro_rules | `(tactic| walk_at "call builtin:list.pop") => `(tactic| (k_here; (with_reducible show wpAny _ _ (call (Value.builtin _) [Value.ref _, Value.int _ _]) _ _ _); k_dflt (refine' pop0_K ?F ?N ?U ?z ?_; (case F => k_asm); (case N => k_asm); (case U => k_upd); (case z => omega)); (intro h' F' N'; (try dsimp only [List.nil_append, List.cons_append] at N'))))
local macro_rules | `(tactic| k_all) => `(tactic| assumption)
local macro_rules | `(tactic| units_room) => `(tactic| (have hcL9 := cLine_is; (simp only [units_in1, units_deeper, Around.mark_units, units_caller]); (try dsimp only [ktrTop]); omega))
local macro_rules | `(tactic| k_units) => `(tactic| (have hcL9 := cLine_is; (simp only [units_in1, units_deeper, Around.mark_units, units_caller]); (try dsimp only [ktrTop]); omega))
local macro_rules | `(tactic| ktr_room) => `(tactic| ((try simp only [depth_under_make, depth_under_kw, depth_in1, depth_deeper, depth_caller]); (try dsimp only [ktrTop]); (simp only [recursionLimit]); omega))
local macro_rules | `(tactic| k_room) => `(tactic| ((try simp only [depth_under_make, depth_under_kw, depth_in1, depth_deeper, depth_caller]); (try dsimp only [ktrTop]); (simp only [recursionLimit]); omega))
def TakePost (a1 a2 : Nat) (rest : List (Addr × Obj)) (most : Int) (r : Value) (news' : List (Addr × Obj)) : Prop :=
  ∃ (x b' c' : Int) (t tb' tc' : Tok) (n1' n2' : Nat) (vs' : List Value) (ns' : List Int),
        r = .int x t ∧ 0 ≤ x ∧ x < most ∧ 0 ≤ b' ∧ 0 ≤ c' ∧ c' < 2147483563 ∧ IntsAre vs' ns' ∧ vs'.length ≤ 40 ∧
        news' = ((a2, listOf #[.ref a1, .int b' tb', .int c' tc'] n2') :: (a1, listOf vs'.toArray n1') :: rest)
theorem takePost_mk {a1 a2 : Nat} {rest : List (Addr × Obj)} {most : Int} {x b' c' : Int} {t tb' tc' : Tok} {n1' n2' : Nat} {vs' : List Value} {ns' : List Int}
  (hm : 0 < most) (h1 : 0 ≤ b') (h2 : 0 ≤ c') (h3 : c' < 2147483563) (h4 : IntsAre vs' ns') (h5 : vs'.length ≤ 40) :
  TakePost a1 a2 rest most (.int (x.fmod most) t) ((a2, listOf #[.ref a1, .int b' tb', .int c' tc'] n2') :: (a1, listOf vs'.toArray n1') :: rest) :=
  ⟨_, _, _, _, _, _, _, _, _, _, rfl, fm_lo _ _ hm, fm_hi _ _ hm, h1, h2, h3, h4, h5, rfl⟩
theorem take_c (w : World) (p : Program) (loose : List Str) (mean : ExcName → Option Value) (mg mb : Str → Option Value)
   (a1 a2 : Nat) (b c most : Int) (tb tc tm : Tok) (n1 n2 : Nat) (vs : List Value) (ns : List Int) (rest : List (Addr × Obj))
   (hne : a1 < a2) (hr1 : ∀ q ∈ rest, q.1 ≠ a1) (hr2 : ∀ q ∈ rest, q.1 ≠ a2) (hvs : IntsAre vs ns) (hlen : vs.length ≤ 40) (hb : 0 ≤ b) (hc : 0 ≤ c) (hc2 : c < 2147483563) (hm : 0 < most) (hm2 : most < 1000) :
   Does PySem.Challenge.rw_pq1312_01.row.prog w (hd.heap_39 w.params) p loose mean mg mb 93 [.ref a2, .int most tm]
     ((a2, listOf #[.ref a1, .int b tb, .int c tc] n2) :: (a1, listOf vs.toArray n1) :: rest) 900 9000
     (TakePost a1 a2 rest most) := by
  k_fill
  w_top off
  k_with_none
  have hlv := hvs.length
  cases hvs
  all_goals (try simp only [List.length_cons] at hlen)
  all_goals (
    unfold Does
    intro dp un gd cn cs a ccd cl outer A₀ base h₀ L m s Q E B F X N T hk hdp hun hret
    refine wpAny_call ?_
    (first | k_dflt cell_enter | fail "the helper is not entered")
    k_steps
  )
  all_goals (try (exfalso; rename decide _ = true => hh; simp at hh; done))
  all_goals (
    rename News h₀ L _ _ => kN; rename Fr h₀ L _ _ => kF
    first
    | (refine hret _ _ _ _ (takePost_mk hm ?_ ?_ ?_ (by first | assumption | exact IntsAre.nil | exact IntsAre.cons _ _ (by assumption)) ?_) kF kN)
    | (refine hret _ _ _ _ (takePost_mk hm ?_ ?_ ?_ (by first | assumption | exact IntsAre.nil | exact IntsAre.cons _ _ (by assumption)) ?_) kF (fun p hp => kN p (List.mem_cons_of_mem _ hp))))
  all_goals (try clear hret)
  all_goals first
    | assumption
    | exact fm_lo _ _ (by decide)
    | exact fm_hi _ _ (by decide)
    | exact fd_lo _ _ (by assumption) hm
    | exact fd_lo _ _ (fd_lo _ _ (fm_lo _ _ (by decide)) (by decide)) hm
    | (refine fd_lo _ _ ?_ hm; simp only [decide_eq_true_eq, decide_eq_false_iff_not, ge_iff_le] at *; omega)
    | (simp only [List.length_cons, List.length_nil] at *; omega)

end Mine
end
section
open PySem PySem.W PyProof.Rows PySem.Spec PySem.Calls
set_option maxRecDepth 100000
set_option maxHeartbeats 8000000
set_option pp.deepTerms false
set_option pp.deepTerms.threshold 6
namespace Mine
local macro_rules | `(tactic| walk_at "mine_no_such_node") => `(tactic| fail)
local macro_rules | `(tactic| walk_at "mine_no_such_node") => `(tactic| fail)
local macro_rules | `(tactic| walk_at "mine_no_such_node") => `(tactic| fail)
local macro_rules | `(tactic| walk_at "mine_no_such_node") => `(tactic| fail)
local macro_rules | `(tactic| walk_at "mine_no_such_node") => `(tactic| fail)
local macro_rules | `(tactic| walk_at "mine_no_such_node") => `(tactic| fail)
local macro_rules | `(tactic| walk_at "mine_no_such_node") => `(tactic| fail)
local macro_rules | `(tactic| walk_at "mine_no_such_node") => `(tactic| fail)
local macro_rules | `(tactic| walk_at "mine_no_such_node") => `(tactic| fail)
local macro_rules | `(tactic| walk_at "mine_no_such_node") => `(tactic| fail)
local macro_rules | `(tactic| walk_at "mine_no_such_node") => `(tactic| fail)
local macro_rules | `(tactic| walk_at "mine_no_such_node") => `(tactic| fail)
local macro_rules | `(tactic| walk_at "mine_no_such_node") => `(tactic| fail)
local macro_rules | `(tactic| walk_at "mine_no_such_node") => `(tactic| fail)
local macro_rules | `(tactic| walk_at "mine_no_such_node") => `(tactic| fail)
local macro_rules | `(tactic| walk_at "mine_no_such_node") => `(tactic| fail)
local macro_rules | `(tactic| walk_at "mine_no_such_node") => `(tactic| fail)
local macro_rules | `(tactic| walk_at "mine_no_such_node") => `(tactic| fail)
local macro_rules | `(tactic| walk_at "mine_no_such_node") => `(tactic| fail)
local macro_rules | `(tactic| k_all) => `(tactic| assumption)
local macro_rules | `(tactic| units_room) => `(tactic| (have hcL9 := cLine_is; (simp only [units_in1, units_deeper, Around.mark_units, units_caller]); (try dsimp only [ktrTop]); omega))
local macro_rules | `(tactic| k_units) => `(tactic| (have hcL9 := cLine_is; (simp only [units_in1, units_deeper, Around.mark_units, units_caller]); (try dsimp only [ktrTop]); omega))
local macro_rules | `(tactic| ktr_room) => `(tactic| ((try simp only [depth_under_make, depth_under_kw, depth_in1, depth_deeper, depth_caller]); (try dsimp only [ktrTop]); (simp only [recursionLimit]); omega))
local macro_rules | `(tactic| k_room) => `(tactic| ((try simp only [depth_under_make, depth_under_kw, depth_in1, depth_deeper, depth_caller]); (try dsimp only [ktrTop]); (simp only [recursionLimit]); omega))
local macro_rules | `(tactic| walk_at "exec While Compare cons nil") => `(tactic| (k_here; k_extra "MYWHILE"))

structure SpS where
  i : Nat
  t : Tok
  vs : List Value
  n : Nat

local macro_rules | `(tactic| walk_at "execs cons") => `(tactic| (k_extra "PRUNE"))
local macro_rules | `(tactic| walk_at "call builtin:list.append") => `(tactic| (k_here; (with_reducible show wpAny _ _ (call (Value.builtin _) [Value.ref _, _]) _ _ _); k_dflt (refine' appendL ?F ?N ?U ?z ?_; (case F => k_asm); (case N => k_asm); (case U => k_upd); (case z => omega)); (intro h' F' N'; (try dsimp only [List.nil_append, List.cons_append] at N'))))
local macro_rules | `(tactic| walk_at "KswEnd") => `(tactic| (k_extra "MYEND"))
theorem spread_c (w : World) (p : Program) (loose : List Str) (mean : ExcName → Option Value) (mg mb : Str → Option Value)
   (x : Str) (tx : Tok) (rest : List (Addr × Obj)) (hx : x.length ≤ 100) (hno : ∀ c ∈ x.cps.toList, c ≠ 45) :
   Does PySem.Challenge.rw_pq1312_01.row.prog w (hd.heap_39 w.params) p loose mean mg mb 74 [.str x tx] rest 900 9000 (SpreadPost rest x.cps.toList) := by
  k_fill
  w_top off
  k_with_none
  unfold Does
  intro dp un gd cn cs a ccd cl outer A₀ base h₀ L m s Q E B F X N T hk hdp hun hret
  refine wpAny_call ?_
  k_with "MYWHILE" => (
    rename Fr _ _ _ _ => lF; rename News _ _ _ _ => lN
    refine ksw_while (σ := SpS) (fun c => (_, W.listOf c.vs.toArray c.n) :: rest) (fun c => [(Str.ofString "at", .int c.i c.t)]) (fun _ => True) [Str.ofString "first", Str.ofString "last", Str.ofString "code"]
      (fun c => c.i ≤ x.length ∧ StrsAre c.vs ((x.cps.toList.take c.i).map chr1)) (fun c => x.length - c.i) ⟨0, _, [], 0⟩ lF lN trivial (by intro p hp; rw [List.mem_singleton.mp hp]; rfl) ⟨Nat.zero_le _, by simp; exact StrsAre.nil⟩ ?_
    clear lF lN
    intro c u h tk hf hp kFr kNews
    obtain ⟨hi, hvs⟩ := hp
    obtain ⟨i, t, vs, n⟩ := c
    have hvl : vs.length ≤ 100 := vl_le hvs (Nat.le_trans hi hx)
    dsimp only at hi hvs kNews kFr ⊢
    try k_fold)
  k_with "PRUNE" => ((rename (Txt.item x _ == Str.ofString "-") = true => hc); exfalso; exact dash_noI hno (by omega) (by omega) hc)
  (first | k_dflt cell_enter | fail "the helper is not entered")
  k_steps
  · rename News _ _ _ _ => nE
    refine ksw_end ⟨i + 1, _, vs ++ [_], _⟩ (by assumption) nE (fun p hp => hp) trivial (by intro p hp; rw [List.mem_singleton.mp hp]; rfl) (by intro z h2 h3; have h2' := h2 _ (List.mem_singleton.mpr rfl); dsimp only at h2'; (simp only [List.contains_cons, List.contains_nil, Bool.or_false, Bool.or_eq_false_iff, beq_eq_false_iff_ne, ne_eq] at h3); simp [kstB, h2', h3]) ⟨by show i + 1 ≤ x.length; omega, strs_next hvs (by omega)⟩ (by show x.length - (i + 1) < x.length - i; omega)
  · rename News _ _ _ _ => nE
    refine ksw_end ⟨i + 1, _, vs ++ [_], _⟩ (by assumption) nE (fun p hp => hp) trivial (by intro p hp; rw [List.mem_singleton.mp hp]; rfl) (by intro z h2 h3; have h2' := h2 _ (List.mem_singleton.mpr rfl); dsimp only at h2'; (simp only [List.contains_cons, List.contains_nil, Bool.or_false, Bool.or_eq_false_iff, beq_eq_false_iff_ne, ne_eq] at h3); simp [kstB, h2', h3]) ⟨by show i + 1 ≤ x.length; omega, strs_next hvs (by omega)⟩ (by show x.length - (i + 1) < x.length - i; omega)
  · skip
    rename News h₀ L _ _ => kN; rename Fr h₀ L _ _ => kF
    have e : i = x.length := by omega
    refine hret _ _ _ _ ⟨_, _, _, rfl, ?_, by assumption, rfl⟩ kF kN
    have e2 : x.cps.toList.take i = x.cps.toList := by rw [e]; exact List.take_length
    rw [e2] at hvs; exact hvs
end Mine
end
section
open PySem PySem.W PyProof.Rows PySem.Spec PySem.Calls
set_option maxRecDepth 100000
set_option maxHeartbeats 8000000
set_option pp.deepTerms false
set_option pp.deepTerms.threshold 6
namespace Mine
local macro_rules | `(tactic| walk_at "mine_no_such_node") => `(tactic| fail)
local macro_rules | `(tactic| walk_at "mine_no_such_node") => `(tactic| fail)
local macro_rules | `(tactic| walk_at "mine_no_such_node") => `(tactic| fail)
local macro_rules | `(tactic| walk_at "mine_no_such_node") => `(tactic| fail)
local macro_rules | `(tactic| walk_at "mine_no_such_node") => `(tactic| fail)
local macro_rules | `(tactic| walk_at "mine_no_such_node") => `(tactic| fail)
local macro_rules | `(tactic| walk_at "mine_no_such_node") => `(tactic| fail)
local macro_rules | `(tactic| walk_at "mine_no_such_node") => `(tactic| fail)
local macro_rules | `(tactic| walk_at "mine_no_such_node") => `(tactic| fail)
local macro_rules | `(tactic| walk_at "mine_no_such_node") => `(tactic| fail)
local macro_rules | `(tactic| walk_at "mine_no_such_node") => `(tactic| fail)
local macro_rules | `(tactic| walk_at "mine_no_such_node") => `(tactic| fail)
local macro_rules | `(tactic| walk_at "mine_no_such_node") => `(tactic| fail)
local macro_rules | `(tactic| walk_at "mine_no_such_node") => `(tactic| fail)
local macro_rules | `(tactic| walk_at "mine_no_such_node") => `(tactic| fail)
local macro_rules | `(tactic| walk_at "mine_no_such_node") => `(tactic| fail)
local macro_rules | `(tactic| walk_at "mine_no_such_node") => `(tactic| fail)
local macro_rules | `(tactic| walk_at "mine_no_such_node") => `(tactic| fail)
local macro_rules | `(tactic| walk_at "mine_no_such_node") => `(tactic| fail)
local macro_rules | `(tactic| k_all) => `(tactic| assumption)
local macro_rules | `(tactic| units_room) => `(tactic| (have hcL9 := cLine_is; (simp only [units_in1, units_deeper, Around.mark_units, units_caller]); (try dsimp only [ktrTop]); omega))
local macro_rules | `(tactic| k_units) => `(tactic| (have hcL9 := cLine_is; (simp only [units_in1, units_deeper, Around.mark_units, units_caller]); (try dsimp only [ktrTop]); omega))
local macro_rules | `(tactic| ktr_room) => `(tactic| ((try simp only [depth_under_make, depth_under_kw, depth_in1, depth_deeper, depth_caller]); (try dsimp only [ktrTop]); (simp only [recursionLimit]); omega))
local macro_rules | `(tactic| k_room) => `(tactic| ((try simp only [depth_under_make, depth_under_kw, depth_in1, depth_deeper, depth_caller]); (try dsimp only [ktrTop]); (simp only [recursionLimit]); omega))
local macro_rules | `(tactic| walk_at "exec While Compare cons nil") => `(tactic| (k_here; refine Stop.out ?_))
local macro_rules | `(tactic| walk_at "execs cons") => `(tactic| (k_extra "PRUNE"))
local macro_rules | `(tactic| walk_at "call builtin:list.append") => `(tactic| (k_here; (with_reducible show wpAny _ _ (call (Value.builtin _) [Value.ref _, _]) _ _ _); k_dflt (refine' appendL ?F ?N ?U ?z ?_; (case F => k_asm); (case N => k_asm); (case U => k_upd); (case z => omega)); (intro h' F' N'; (try dsimp only [List.nil_append, List.cons_append] at N'))))
local macro_rules | `(tactic| walk_at "KswEnd") => `(tactic| (refine Stop.out ?_))
local macro_rules | `(tactic| walk_at "InvEndN") => `(tactic| (refine Stop.out ?_))

structure SwS where
  i : Int
  t : Tok
  vs : List Value
  n : Nat

theorem spread_w (w : World) (p : Program) (loose : List Str) (mean : ExcName → Option Value) (mg mb : Str → Option Value)
   (x : Str) (tx : Tok) (e : Nat) (rest : List (Addr × Obj)) (hxe : x = ⟨#[97, 45, e]⟩) (he : 97 ≤ e) (he2 : e < 200) :
   Does PySem.Challenge.rw_pq1312_01.row.prog w (hd.heap_39 w.params) p loose mean mg mb 74 [.str x tx] rest 900 9000 (SpreadPost rest ((rangeKs 97 (e - 96)).map Int.toNat)) := by
  k_fill
  w_top off
  k_with_none
  unfold Does
  intro dp un gd cn cs a ccd cl outer A₀ base h₀ L m s Q E B F X N T hk hdp hun hret
  refine wpAny_call ?_
  have hx : x.length = 3 := by rw [hxe]; rfl
  have hI0 : Txt.item x (0 : Int) = chr1 97 := by rw [hxe]; rfl
  have hI1 : Txt.item x (0 + 1 : Int) = Str.ofString "-" := by rw [hxe]; rfl
  have hI2 : Txt.item x (0 + 2 : Int) = chr1 e := by rw [hxe]; rfl
  clear hxe
  k_with "pyIter ref" => (refine Stop.out ?_)
  k_with "PRUNE" => ((rename ¬ ((Txt.item x _ == Str.ofString "-") = true) => hc); exfalso; exact hc (by rw [hI1]; decide +kernel))
  k_with "PRUNE" => ((rename ((Txt.item x _ == Str.ofString "-") = false) => hc); exfalso; rw [hI1] at hc; revert hc; decide +kernel)
  k_with "PRUNE" => ((rename (((Txt.item x _).cps.getD 0 0 : Nat) : Int) < _ => hc); exfalso; rw [hI0, hI2] at hc; simp at hc; omega)
  (first | k_dflt cell_enter | fail "the helper is not entered")
  k_steps
  · unfold Stop
    rename Fr _ _ _ _ => lF; rename News _ _ _ _ => lN
    refine ksw_while (σ := SwS) (fun c => (_, W.listOf c.vs.toArray c.n) :: rest) (fun c => [(Str.ofString "at", .int c.i c.t)]) (fun _ => True) [Str.ofString "first", Str.ofString "last", Str.ofString "code"]
      (fun c => (c.i = 0 ∧ c.vs = []) ∨ (c.i = 3 ∧ StrsAre c.vs ((rangeKs 97 (e - 96)).map fun k => chr1 k.toNat))) (fun c => (3 - c.i).toNat) ⟨0, _, [], 0⟩ lF lN trivial (by intro p hp; rw [List.mem_singleton.mp hp]; rfl) (.inl ⟨rfl, rfl⟩) ?_
    clear lF lN
    intro c u h tk hf hp kFr kNews
    obtain ⟨i, t, vs, n⟩ := c
    dsimp only at hp kNews kFr ⊢
    rcases hp with ⟨hp1, hp2⟩ | ⟨hp1, hp2⟩
    · subst hp1; subst hp2; try k_fold
      k_steps
      unfold Stop
      rename IsRange _ _ _ _ _ _ _ _ => hR
      rename Fr _ _ _ _ => lF; rename News _ _ _ _ => lN
      rename ∀ q ∈ rest, q.1 < _ => l1
      have e0 : (((Txt.item x 0).cps.getD 0 0 : Nat) : Int) = 97 := by rw [hI0]; rfl
      have e2 : (((Txt.item x (0 + 2)).cps.getD 0 0 : Nat) : Int) = e := by rw [hI2]; rfl
      refine kst_range (σ := List Value × Nat) (n := e - 96) (fun c => (_, W.listOf c.1.toArray c.2) :: rest) (fun _ => []) (fun _ => True) []
        (fun pre c => StrsAre c.1 (pre.map fun k => chr1 k.toNat) ∧ c.1.length = pre.length) ([], n) rfl hR (by rw [e0, e2]; exact small_one (by decide) (by decide) (by omega) (by omega)) (by rw [e0, e2, rangeSize_nat]; omega) lF lN trivial (fun _ h => nomatch h) ⟨StrsAre.nil, rfl⟩ ?_ ?_
      · clear lF lN
        intro c pre k t' u' h' tk' own hk' hlt hoff hf' hp' kFr kNews
        obtain ⟨vs, n'⟩ := c
        have hall : ∀ q ∈ rest ++ own, q.1 ≠ _ := fun q hq => (List.mem_append.mp hq).elim (fun h => Nat.ne_of_lt (l1 q h)) (fun h => hoff q h _ (.head _))
        dsimp only [List.cons_append] at hp' kNews kFr
        obtain ⟨hp1, hp2⟩ := hp'
        have hvl : vs.length ≤ 1000 := by rw [hp2]; omega
        have hkn : 0 ≤ k ∧ k ≤ 1114111 := by omega
        obtain ⟨hk0, hk1⟩ := hkn
        try k_fold
        k_steps
        unfold Stop
        rename News _ _ _ _ => nE
        refine kst_end (vs ++ [_], _) (by assumption) nE (fun p hp => (List.mem_cons.mp hp).elim (fun h => h ▸ .head _) (fun h => .tail _ (List.mem_append_left _ h))) (fun p hp => .tail _ (List.mem_append_right _ hp)) rfl trivial (fun _ h => nomatch h) (by intro z h1 h2 h3; simp [kstB, h1]) ⟨by simpa using strs_snoc1 hp1, by simp [hp2]⟩
      · clear lF lN
        intro c u' h' tk' hf' hp' kFr kNews
        obtain ⟨vs, n'⟩ := c
        dsimp only at hp' kNews kFr ⊢
        obtain ⟨hp1, hp2⟩ := hp'
        try k_fold
        k_steps
        unfold Stop
        rename News _ _ _ _ => nE
        refine ksw_end ⟨3, _, vs, _⟩ (by assumption) nE (fun p hp => hp) trivial (by intro p hp; rw [List.mem_singleton.mp hp]; rfl) (by intro z h2 h3; have h2' := h2 _ (List.mem_singleton.mpr rfl); dsimp only at h2'; (simp only [List.contains_cons, List.contains_nil, Bool.or_false, Bool.or_eq_false_iff, beq_eq_false_iff_ne, ne_eq] at h3); simp [kstB, h2', h3]) (.inr ⟨rfl, by rw [e0] at hp1; exact hp1⟩) (show (0 : Nat) < 3 from (by decide))
    · subst hp1; try k_fold
      k_steps
      rename News h₀ L _ _ => kN; rename Fr h₀ L _ _ => kF
      refine hret _ _ _ _ ⟨_, _, _, rfl, by rw [List.map_map]; exact hp2, by assumption, rfl⟩ kF kN
end Mine
end
section
open PySem PySem.W PyProof.Rows PySem.Spec PySem.Calls
set_option maxRecDepth 100000
set_option maxHeartbeats 8000000
namespace Mine
section
variable {prog : Program} {w : World} {A : Around} {E : Value → Shared → Prop} {s : Shared} {h₀ : Heap} {L : Addr} {m : Str → Option Value} {env : Env}
theorem striter_st {I : Addr} {x : Str} {t : Tok} {ty : String} : ∀ i (h h' : Heap) (o : Obj) (nw : List (Addr × Obj)), h.IsStrIter I ty x t i → h.get? I = some o → h'.get? I = some o → (∀ b o, h₀.get? b = some o → h'.get? b = some o) → News h₀ L h' nw → True → h'.IsStrIter I ty x t i :=
  fun i h h' o nw st e e' _ _ _ => by
    obtain ⟨o', q, r⟩ := st
    rw [e] at q; cases q
    exact ⟨o, e', r⟩
def StrSrc (prog : Program) (w : World) (A : Around) (h₀ : Heap) (L : Addr) (m : Str → Option Value) (env : Env) (elt : Expr) (x : Str) (scope : Scope) (cl : List (Str × Addr)) (Q : Value → Shared → Prop) (xv : Value) (s₁ : Shared) : Prop :=
  ∃ xt tx news, xv = .str xt tx ∧ A.handled = none ∧ Fr h₀ L s₁.heap m ∧ News h₀ L s₁.heap news ∧ xt.length ≤ 100000 ∧
      ∀ s₂ : Shared, (∃ g, s₂ = { s₁ with heap := g }) → LCg.CompRest prog w A h₀ L m env elt x scope cl s₂ (fun _ => True) (SignAt xt) (LCg.FinE h₀ L m s₂ Q) xt.cps.size 0 [] news
theorem ListComp_S {elt iter : Expr} {x : Str} {px : Pos} {scope : Scope} {cl : List (Str × Addr)} {pos : Pos} {Q : Value → Shared → Prop} (_ : Fr h₀ L s.heap m)
    (hclos : closureFor scope env = pure cl) (hcell : ∀ y ∈ scope.names, y.2 ≠ .cell) (hkind : scope.kind = .function)
    (hnames : ∀ y ∈ scope.names, y.2 = .local → scope.names.lookup y.1 = some .local) (hx : scope.names.lookup x = some .local)
    (h : wpAny (model prog w) A (eval iter env) (StrSrc prog w A h₀ L m env elt x scope cl Q) E s)
    (hs : ∀ x, foldedSetIterable iter env x = pure x := by intro _; rfl) :
    wpAny (model prog w) A (eval (.ListComp elt [⟨.Name x px, iter, [], 0⟩] scope pos) env) Q E s := by
  rw [eval_ListComp]
  refine wpAny_comprehension_free (use := none) rfl hs hclos hkind hnames (wpAny_mono h (fun xv s₁ h₁ => ?_) fun _ _ e => e)
  obtain ⟨xt, tx, news, rfl, hh, F, N, hsz, R⟩ := h₁
  have hsz' : xt.cps.size ≤ sizeLine := by rw [sizeLine_eq]; exact Nat.le_trans hsz (by decide)
  cases ha : xt.cps.all (· < 128)
  · refine wpAny_pyIter_wide ha ?_
    refine LCg.block_U (Walks.strWide hh _ xt tx) hsz' (fun i h st => by obtain ⟨o, e, _⟩ := st; exact ⟨o, e⟩) striter_st hcell hkind hx ⟨_, Heap.get?_push_size _ rfl, rfl, rfl⟩ (fun b hb => ?_)
      (F.keeps fun _ _ e => Heap.get?_push_of_some _ e) (N.grown fun _ _ e => Heap.get?_push_of_some _ e) (Nat.ne_of_lt F.ns.lt) (next_is_new F) (fun p hp => Nat.ne_of_lt (Heap.lt_size (N p hp).1)) trivial (R _ ⟨_, rfl⟩) ?_
    · rw [List.mem_singleton.mp hb]
      show s₁.heap.objs.size < (s₁.heap.push _).objs.size
      rw [Heap.size_push]; exact Nat.lt_succ_self _
    · intro D C h tk m' ys news' F' N' o1 hn hC₀ hD₀ hCL hDL hCD offC fin
      refine ⟨m', hn, fun h'' hs'' => fin D h'' tk (F'.change hs'' hCL hC₀) (fun p hp => ?_) o1⟩
      refine ⟨hs''.extBut _ _ ?_ (N' p hp).1, (N' p hp).2⟩
      rcases List.mem_cons.mp hp with rfl | hp
      · exact Ne.symm hCD
      · exact offC p hp
  · refine wpAny_pyIter_ascii ha ?_
    refine LCg.block_U (Walks.strAscii hh _ xt tx) hsz' (fun i h st => by obtain ⟨o, e, _⟩ := st; exact ⟨o, e⟩) striter_st hcell hkind hx ⟨_, Heap.get?_push_size _ rfl, rfl, rfl⟩ (fun b hb => ?_)
      (F.keeps fun _ _ e => Heap.get?_push_of_some _ e) (N.grown fun _ _ e => Heap.get?_push_of_some _ e) (Nat.ne_of_lt F.ns.lt) (next_is_new F) (fun p hp => Nat.ne_of_lt (Heap.lt_size (N p hp).1)) trivial (R _ ⟨_, rfl⟩) ?_
    · rw [List.mem_singleton.mp hb]
      show s₁.heap.objs.size < (s₁.heap.push _).objs.size
      rw [Heap.size_push]; exact Nat.lt_succ_self _
    · intro D C h tk m' ys news' F' N' o1 hn hC₀ hD₀ hCL hDL hCD offC fin
      refine ⟨m', hn, fun h'' hs'' => fin D h'' tk (F'.change hs'' hCL hC₀) (fun p hp => ?_) o1⟩
      refine ⟨hs''.extBut _ _ ?_ (N' p hp).1, (N' p hp).2⟩
      rcases List.mem_cons.mp hp with rfl | hp
      · exact Ne.symm hCD
      · exact offC p hp

theorem compRest_inv {elt : Expr} {x : Str} {scope : Scope} {cl : List (Str × Addr)} {S : List (Addr × Obj) → Prop} {P : Nat → Value → Prop} {Fin : List Value → List (Addr × Obj) → Prop} {n : Nat}
    (Inv : Nat → List Value → List (Addr × Obj) → Prop)
    (turn : ∀ i v I oI C oC D m₂ ys news h tk (E' : Value → Shared → Prop), i < n → P i v → Inv i ys news → LCg.NsObj oC m₂ → m₂ x = some v → Fr h₀ L h m → News h₀ L h ((I, oI) :: (C, oC) :: (D, LCg.lst ys) :: news) → LCg.Off3 I C D news → ((@Ne Nat I C) ∧ (@Ne Nat I D) ∧ (@Ne Nat C D)) →
      wpAny (model prog w) A (eval elt (compEnvC scope cl C env)) (LCg.CompEnd h₀ L m { s with heap := h, toks := tk } I oI C oC D (LCg.lst ys) S (fun y news' => Inv (i + 1) (ys ++ [y]) news')) E' { s with heap := h, toks := tk })
    (fin : ∀ ys news, Inv n ys news → Fin ys news) : ∀ k i ys news, i + k = n → Inv i ys news → LCg.CompRest prog w A h₀ L m env elt x scope cl s S P Fin k i ys news := by
  intro k
  induction k with
  | zero =>
    intro i ys news hi hI
    have e : i = n := by omega
    subst e
    exact LCg.CompRest.zero (fin _ _ hI)
  | succ k ih =>
    intro i ys news hi hI
    refine LCg.CompRest.succ ?_
    intro v I oI C oC D m₂ h tk E' hv hC hx F N off ne
    refine wpAny_mono (turn i v I oI C oC D m₂ ys news h tk E' (by omega) hv hI hC hx F N off ne) (fun y s₂ hq => ?_) fun _ _ e => e
    obtain ⟨h', tk', nw, e, F', N', off', hS, hInv⟩ := hq
    exact ⟨h', tk', nw, e, F', N', off', hS, ih (i + 1) _ _ (by omega) hInv⟩
end
section
variable {prog : Program} {w : World} {A : Around} {E : Value → Shared → Prop} {s : Shared} {d : Addr}
theorem get2_pairs {l : List (Nat × Nat)} {c : Nat} {t t' : Tok} {Q : Value → Shared → Prop} (T : StrTab prog w s.heap d (pairsD l)) (h : ∀ t, Q (.str (chr1 ((l.lookup c).getD c)) t) { s with toks := s.toks + 1 }) :
    wpAny (model prog w) A (call (.builtin "dict.get") [.ref d, .str (chr1 c) t, .str (chr1 c) t']) Q E s := by
  refine call_get2_strTab T (PyProof.V.Flat.str _ _) fun v hv => ?_
  rw [lookup_pairsD] at hv
  have e : ((l.lookup c).map fun v => PyData.str (chr1 v)).getD (.str (chr1 c)) = .str (chr1 ((l.lookup c).getD c)) := by
    cases l.lookup c <;> rfl
  rw [e] at hv
  have hr := hv s.heap
  cases hr with
  | str x t => exact h t
end
theorem join_none : ∀ l : List Nat, Str.join (Str.ofString "") (l.map chr1) = ⟨l.toArray⟩
  | [] => rfl
  | [c] => rfl
  | c :: d :: r => by
    have ih := join_none (d :: r)
    show chr1 c ++ Str.ofString "" ++ Str.join (Str.ofString "") ((d :: r).map chr1) = _
    rw [ih]
    have e : Str.ofString "" = Str.empty := by decide +kernel
    rw [e]
    refine Str.ext' ?_
    rw [Str.cps_append, Str.cps_append]
    apply Array.toList_inj.mp
    simp [Str.empty]
theorem sum_chr1 : ∀ l : List Nat, ((l.map chr1).map (·.length)).sum = l.length
  | [] => rfl
  | c :: r => by
    rw [List.map_cons, List.map_cons, List.sum_cons, sum_chr1 r, List.length_cons]
    show 1 + r.length = r.length + 1
    omega
section
variable {prog : Program} {w : World} {A : Around} {E : Value → Shared → Prop} {s : Shared} {h₀ : Heap} {L D : Addr} {news : List (Addr × Obj)} {n : Nat}
theorem join_chr {vs : List Value} {l : List Nat} {t : Tok} {Q : Value → Shared → Prop} (N : News h₀ L s.heap news) (hm : (D, W.listOf vs.toArray n) ∈ news) (hs : StrsAre vs (l.map chr1)) (hl : l.length ≤ 1000)
    (h : ∀ t k, Q (.str ⟨l.toArray⟩ t) { s with toks := k }) : wpAny (model prog w) A (call (.builtin "str.join") [.str (Str.ofString "") t, .ref D]) Q E s := by
  have hL : s.heap.IsList D vs.toArray := ⟨_, (N _ hm).1, rfl, _, rfl⟩
  refine join_listW hL (by simpa using hs) (by decide) (by rw [sum_chr1, List.length_map]; omega) ?_
  have e : Txt.join (Str.ofString "") (l.map chr1) = Str.join (Str.ofString "") (l.map chr1) := by simpa using join_plain_closes (Str.ofString "") (l.map chr1)
  rw [e, join_none]
  exact h
end
end Mine
end
section
open PySem PySem.W PyProof.Rows PySem.Spec PySem.Calls
set_option maxRecDepth 100000
set_option maxHeartbeats 8000000
set_option pp.deepTerms false
set_option pp.deepTerms.threshold 6
namespace Mine
local macro_rules | `(tactic| walk_at "mine_no_such_node") => `(tactic| fail)
local macro_rules | `(tactic| walk_at "mine_no_such_node") => `(tactic| fail)
local macro_rules | `(tactic| walk_at "mine_no_such_node") => `(tactic| fail)
local macro_rules | `(tactic| walk_at "mine_no_such_node") => `(tactic| fail)
local macro_rules | `(tactic| walk_at "mine_no_such_node") => `(tactic| fail)
local macro_rules | `(tactic| walk_at "mine_no_such_node") => `(tactic| fail)
local macro_rules | `(tactic| walk_at "mine_no_such_node") => `(tactic| fail)
local macro_rules | `(tactic| walk_at "mine_no_such_node") => `(tactic| fail)
local macro_rules | `(tactic| walk_at "mine_no_such_node") => `(tactic| fail)
local macro_rules | `(tactic| walk_at "mine_no_such_node") => `(tactic| fail)
local macro_rules | `(tactic| walk_at "mine_no_such_node") => `(tactic| fail)
local macro_rules | `(tactic| walk_at "mine_no_such_node") => `(tactic| fail)
local macro_rules | `(tactic| walk_at "mine_no_such_node") => `(tactic| fail)
local macro_rules | `(tactic| walk_at "mine_no_such_node") => `(tactic| fail)
local macro_rules | `(tactic| walk_at "mine_no_such_node") => `(tactic| fail)
local macro_rules | `(tactic| walk_at "mine_no_such_node") => `(tactic| fail)
local macro_rules | `(tactic| k_all) => `(tactic| assumption)
local macro_rules | `(tactic| units_room) => `(tactic| (have hcL9 := cLine_is; (simp only [units_in1, units_deeper, Around.mark_units, units_caller]); (try dsimp only [ktrTop]); omega))
local macro_rules | `(tactic| k_units) => `(tactic| (have hcL9 := cLine_is; (simp only [units_in1, units_deeper, Around.mark_units, units_caller]); (try dsimp only [ktrTop]); omega))
local macro_rules | `(tactic| ktr_room) => `(tactic| ((try simp only [depth_under_make, depth_under_kw, depth_in1, depth_deeper, depth_caller]); (try dsimp only [ktrTop]); (simp only [recursionLimit]); omega))
local macro_rules | `(tactic| k_room) => `(tactic| ((try simp only [depth_under_make, depth_under_kw, depth_in1, depth_deeper, depth_caller]); (try dsimp only [ktrTop]); (simp only [recursionLimit]); omega))
local macro_rules | `(tactic| walk_at "call ref") => `(tactic| (refine Stop.out ?_))
local macro_rules | `(tactic| walk_at "exec For Name Call cons nil") => `(tactic| (k_here; (rename Fr _ _ _ _ => lF'); (with_unfolding_all refine' For_invVF lF' ?k1 ?k2 ?_; (case k1 => exact rfl); (case k2 => exact rfl); k_whole)))
local macro_rules | `(tactic| walk_at "call builtin:len") => `(tactic| (k_here; (with_reducible show wpAny _ _ (call (Value.builtin "len") [Value.ref _]) _ _ _); k_dflt (refine' len_vs ?N ?m ?e ?f ?_; (case N => k_asm); (case m => k_mem); (case e => assumption); (case f => omega)); intro t9 k9))
local macro_rules | `(tactic| walk_at "subscriptTail") => `(tactic| (k_here; (with_reducible show wpAny _ _ (subscriptTail _ _ (Value.ref _) (Value.int _ _)) _ _ _); k_dflt (refine' item_strs1 ?N ?m ?e ?a ?b ?f ?_; (case N => k_asm); (case m => k_mem); (case e => assumption); (case a => omega); (case b => omega); (case f => omega)); intro t9))
local macro_rules | `(tactic| walk_at "InvEndN") => `(tactic| (refine Stop.out ?_))
local macro_rules | `(tactic| walk_at "setItem ref str") => `(tactic| (k_here; k_dflt (refine' setItem_K PyProof.V.same_str (strKind_is _ _ _ _) ?v ?F ?N ?U ?d ?f ?_ ?z; (case F => k_asm); (case N => k_asm); (case U => k_updF); (case d => k_asm); (case f => k_asm); (case z => (rw [sizeLine_eq]; omega)); (case v => k_flat)); intro h' o' F' N' hd' hf'; (try dsimp only at N'); (try k_sweep)))
local macro_rules | `(tactic| walk_at "eval ListComp") => `(tactic| (refine Stop.out ?_))
local macro_rules | `(tactic| walk_at "CompEnd") => `(tactic| (refine Stop.out ?_))
local macro_rules | `(tactic| walk_at "call builtin:dict.get") => `(tactic| (k_here; k_dflt (refine get2_pairs (by k_tabat) ?_); intro t9))
local macro_rules | `(tactic| walk_at "call builtin:str.join") => `(tactic| (k_here; (with_reducible show wpAny _ _ (call (Value.builtin "str.join") [Value.str _ _, Value.ref _]) _ _ _); k_dflt (refine' join_chr ?N ?m ?s ?l ?_; (case N => k_asm); (case m => k_mem); (case s => assumption); (case l => assumption)); intro t9 k9))
structure ChS (w : World) where
  o : Obj
  kvs : List (Str × Value)
  D : List (PyData × PyData)
theorem chartr_c (w : World) (p : Program) (loose : List Str) (mean : ExcName → Option Value) (mg mb : Str → Option Value)
   (old new text : Str) (to tn tt : Tok) (bs ns : List Nat) (rest : List (Addr × Obj))
   (Hold : ∀ tx rest, Does PySem.Challenge.rw_pq1312_01.row.prog w (hd.heap_39 w.params) p loose mean mg mb 74 [.str old tx] rest 900 9000 (SpreadPost rest bs))
   (Hnew : ∀ tx rest, Does PySem.Challenge.rw_pq1312_01.row.prog w (hd.heap_39 w.params) p loose mean mg mb 74 [.str new tx] rest 900 9000 (SpreadPost rest ns))
   (hlen : bs.length ≤ ns.length) (hns : ns.length ≤ 100) (hnd : bs.Nodup) (htx : text.length ≤ 100) :
   Does PySem.Challenge.rw_pq1312_01.row.prog w (hd.heap_39 w.params) p loose mean mg mb 79 [.str old to, .str new tn, .str text tt] rest 800 8000
     (fun r news' => ∃ t, r = .str ⟨(text.cps.toList.map fun c => ((bs.zip ns).lookup c).getD c).toArray⟩ t ∧ news' = rest) := by
  k_fill
  w_top off
  k_with_none
  unfold Does
  intro dp un gd cn cs a ccd cl outer A₀ base h₀ L m s Q E B F X N T hk hdp hun hret
  refine wpAny_call ?_
  k_dflt (refine' code_defC ?k1 ?k2 ?k3 ?k4 ?k5 ?kA ?kF ?kK ?k6 ?k7 ?k8 ?k9 ?kB ?kD ?_ ?c2 ?c3 ?c4; (case kA => exact rfl); (case kF => exact rfl); (case kK => assumption); (case k1 => k_asm); (case k2 => k_asm); (case k3 => k_asm); (case k4 => k_asm); (case k5 => k_asm); (case k6 => k_is); (case k7 => k_is); (case k8 => ktr_room); (case k9 => exact BindsTo.of_eq rfl); (case kB => exact rfl); (case kD => decide +kernel); (case c2 => exact rfl); (case c3 => exact rfl); (case c4 => exact rfl); k_whole)
  intro g' L' h' tk' cells' FG' F' N' Y' B' X' T' l1
  (try k_lt l1); k_cells Y'; (try simp only [List.cons_append, List.nil_append] at N'); (try dsimp only); (try k_lift B'); (try k_fold)
  k_steps
  unfold Stop
  k_dflt (refine' (Hold _ _) _ _ _ _ _ _ _ _ _ _ _ _ _ _ _ _ _ ?k1 ?k2 ?k3 ?k4 ?k5 ?k6 ?k7 ?k8 ?_)
  (case k1 => k_asm); (case k2 => k_asm); (case k3 => k_asm); (case k4 => k_asm); (case k5 => k_asm); (case k6 => exact rfl); (case k7 => ktr_room); (case k8 => ktr_units)
  intro r9 news9 h9 tk9 hp9 F9 N9
  obtain ⟨a1, vs1, n1, e1, hvs1, hlt1, e2⟩ := hp9
  subst e1; subst e2
  (try k_lt hlt1)
  try dsimp only
  try k_fold
  k_steps
  unfold Stop
  k_dflt (refine' (Hnew _ _) _ _ _ _ _ _ _ _ _ _ _ _ _ _ _ _ _ ?k1 ?k2 ?k3 ?k4 ?k5 ?k6 ?k7 ?k8 ?_)
  (case k1 => k_asm); (case k2 => k_asm); (case k3 => k_asm); (case k4 => k_asm); (case k5 => k_asm); (case k6 => exact rfl); (case k7 => ktr_room); (case k8 => ktr_units)
  intro r9 news9 h9 tk9 hp9 F9 N9
  obtain ⟨a2, vs2, n2, e1, hvs2, hlt2, e2⟩ := hp9
  subst e1; subst e2
  (try k_lt hlt2)
  try dsimp only
  try k_fold
  have hl1 : vs1.length = bs.length := by rw [StrsAre.length hvs1, List.length_map]
  have hl2 : vs2.length = ns.length := by rw [StrsAre.length hvs2, List.length_map]
  have hr1 : ∀ q ∈ rest, q.1 ≠ L' + 1 := fun q hq => Nat.ne_of_lt (Nat.lt_succ_of_lt (l1 q hq))
  k_with "pyIter ref" => (refine Stop.out ?_)
  k_steps
  unfold Stop
  rename IsRange _ _ _ _ _ _ _ _ => hR
  rename Fr _ _ _ _ => lF; rename News _ _ _ _ => lN
  rename Obj.IsDictOf (PySem.strKind _ _) _ _ => hDs
  rename PyProof.V.FlatPairs PyData.str _ _ => hFs
  rename _ ∧ _ ∧ _ ∧ AllLt _ rest => hltd
  refine kst_range (σ := ChS w) (n := bs.length) (fun c => (_, c.o) :: (a2, W.listOf vs2.toArray n2) :: (a1, W.listOf vs1.toArray n1) :: (_, _) :: rest) (fun _ => []) (fun c => c.o.IsDictOf (PySem.strKind PySem.Challenge.rw_pq1312_01.row.prog w) c.kvs ∧ PyProof.V.FlatPairs PyData.str c.kvs c.D) []
    (fun pre c => c.D = pairsD ((bs.zip ns).take pre.length)) ⟨_, _, _⟩ rfl hR (small_one (by decide) (by decide) (by omega) (by omega)) (by rw [rangeSize_nat]; omega) lF lN ⟨hDs, hFs⟩ (fun _ h => nomatch h) rfl ?_ ?_
  · clear lF lN
    intro c pre k t' u' h' tk' own hk' hlt hoff hf' hp' kFr kNews
    obtain ⟨o5, kvs5, D5⟩ := c
    have hall := ne_app hltd.2.2.2 hoff (.head _)
    dsimp only [List.cons_append] at hp' kNews kFr hf'
    obtain ⟨hf1, hf2⟩ := hf'
    have hDl : D5.length ≤ 1000 := by have := pairsD_len (bs.zip ns) pre.length; rw [← hp'] at this; omega
    try k_fold
    k_steps
    unfold Stop
    rename News _ _ _ _ => nE
    rename Obj.IsDictOf (PySem.strKind _ _) _ _ => hd9
    rename PyProof.V.FlatPairs PyData.str _ _ => hf9
    refine kst_end (⟨_, _, _⟩ : ChS w) (by assumption) nE (by intro p hp; simp only [List.mem_cons, List.mem_append] at hp ⊢; grind) (by intro p hp; simp only [List.mem_cons, List.mem_append]; grind) (by rfl) ⟨hd9, hf9⟩ (fun _ h => nomatch h) (by intro z h1 h2 h3; simp [kstB, h1]) ?_
    have ek : k.toNat = pre.length := by omega
    rw [ek, hp']
    show _ = pairsD ((bs.zip ns).take (pre ++ [k]).length)
    rw [List.length_append, List.length_singleton]
    exact pairsD_step hnd hlen hlt
  · clear lF lN
    intro c u' h' tk' hf' hp' kFr kNews
    obtain ⟨o5, kvs5, D5⟩ := c
    dsimp only at hp' kNews kFr hf' ⊢
    obtain ⟨hf1, hf2⟩ := hf'
    rw [rangeKs_length, List.take_of_length_le (by rw [List.length_zip]; omega)] at hp'
    try k_fold
    k_steps
    unfold Stop
    k_dflt (refine ListComp_S kFr (by with_unfolding_all rfl) (by decide) (by rfl) (by decide) (by rfl) ?_)
    k_steps
    subst hp'
    refine ⟨text, _, _, rfl, rfl, kFr, kNews, by omega, ?_⟩
    rintro s₂ ⟨g9, rfl⟩
    refine compRest_inv (Inv := fun i ys news => StrsAre ys ((text.cps.toList.take i).map fun c => chr1 (((bs.zip ns).lookup c).getD c)) ∧ news = _) ?_ ?_ text.cps.size 0 [] _ (Nat.zero_add _) ⟨.nil, rfl⟩
    · clear kFr kNews
      intro i v I oI C oC D m₂ ys news h tk E' hi hP hI hC hx F N off ne
      obtain ⟨c, u, hc, rfl⟩ := hP
      obtain ⟨hy, rfl⟩ := hI
      have off0 := off
      simp only [LCg.Off3] at off
      try k_fold
      k_steps
      unfold Stop
      have hc2 : text.cps.toList[i]? = some c := by simpa using hc
      refine LCg.CompEnd.intro F N _ (fun p hp => hp) off0 trivial ⟨?_, rfl⟩
      rw [List.take_add_one, hc2]
      simpa using strs_snoc1 hy
    · rintro ys news ⟨hy, rfl⟩
      have e9 : text.cps.toList.take text.cps.size = text.cps.toList := by rw [← Array.length_toList]; exact List.take_length
      rw [e9] at hy
      have hy2 : StrsAre ys ((text.cps.toList.map fun c => ((bs.zip ns).lookup c).getD c).map chr1) := by rw [List.map_map]; exact hy
      have hyl : (text.cps.toList.map fun c => ((bs.zip ns).lookup c).getD c).length ≤ 1000 := by rw [List.length_map, Array.length_toList]; exact Nat.le_trans htx (by decide)
      k_steps
      rename News h₀ L _ _ => kN; rename Fr h₀ L _ _ => kF
      refine hret _ _ _ _ ⟨_, rfl, rfl⟩ kF (fun p hp => kN p (by simp only [List.mem_cons]; grind))
end Mine
end
section
open PySem PySem.W PyProof.Rows PySem.Spec PySem.Calls
set_option maxRecDepth 100000
set_option maxHeartbeats 8000000
set_option pp.deepTerms false
set_option pp.deepTerms.threshold 6
namespace Mine
local macro_rules | `(tactic| walk_at "mine_no_such_node") => `(tactic| fail)
local macro_rules | `(tactic| walk_at "mine_no_such_node") => `(tactic| fail)
local macro_rules | `(tactic| walk_at "mine_no_such_node") => `(tactic| fail)
local macro_rules | `(tactic| walk_at "mine_no_such_node") => `(tactic| fail)
local macro_rules | `(tactic| walk_at "mine_no_such_node") => `(tactic| fail)
local macro_rules | `(tactic| walk_at "mine_no_such_node") => `(tactic| fail)
local macro_rules | `(tactic| walk_at "mine_no_such_node") => `(tactic| fail)
local macro_rules | `(tactic| walk_at "mine_no_such_node") => `(tactic| fail)
local macro_rules | `(tactic| walk_at "mine_no_such_node") => `(tactic| fail)
local macro_rules | `(tactic| walk_at "mine_no_such_node") => `(tactic| fail)
local macro_rules | `(tactic| walk_at "mine_no_such_node") => `(tactic| fail)
local macro_rules | `(tactic| walk_at "mine_no_such_node") => `(tactic| fail)
local macro_rules | `(tactic| walk_at "mine_no_such_node") => `(tactic| fail)
local macro_rules | `(tactic| walk_at "mine_no_such_node") => `(tactic| fail)
local macro_rules | `(tactic| walk_at "mine_no_such_node") => `(tactic| fail)
local macro_rules | `(tactic| walk_at "mine_no_such_node") => `(tactic| fail)
local macro_rules | `(tactic| walk_at "mine_no_such_node") => `(tactic| fail)
local macro_rules | `(tactic| k_all) => `(tactic| assumption)
local macro_rules | `(tactic| units_room) => `(tactic| (have hcL9 := cLine_is; (simp only [units_in1, units_deeper, Around.mark_units, units_caller]); (try dsimp only [ktrTop]); omega))
local macro_rules | `(tactic| k_units) => `(tactic| (have hcL9 := cLine_is; (simp only [units_in1, units_deeper, Around.mark_units, units_caller]); (try dsimp only [ktrTop]); omega))
local macro_rules | `(tactic| ktr_room) => `(tactic| ((try simp only [depth_under_make, depth_under_kw, depth_in1, depth_deeper, depth_caller]); (try dsimp only [ktrTop]); (simp only [recursionLimit]); omega))
local macro_rules | `(tactic| k_room) => `(tactic| ((try simp only [depth_under_make, depth_under_kw, depth_in1, depth_deeper, depth_caller]); (try dsimp only [ktrTop]); (simp only [recursionLimit]); omega))
local macro_rules | `(tactic| walk_at "call ref") => `(tactic| (refine Stop.out ?_))
local macro_rules | `(tactic| walk_at "exec For Name Call cons nil") => `(tactic| (k_here; (rename Fr _ _ _ _ => lF'); (with_unfolding_all refine' For_invVF lF' ?k1 ?k2 ?_; (case k1 => exact rfl); (case k2 => exact rfl); k_whole)))
local macro_rules | `(tactic| walk_at "call builtin:len") => `(tactic| (k_here; (with_reducible show wpAny _ _ (call (Value.builtin "len") [Value.ref _]) _ _ _); k_dflt (refine' len_vs ?N ?m ?e ?f ?_; (case N => k_asm); (case m => k_mem); (case e => assumption); (case f => omega)); intro t9 k9))
local macro_rules | `(tactic| walk_at "subscriptTail") => `(tactic| (k_here; (with_reducible show wpAny _ _ (subscriptTail _ _ (Value.ref _) (Value.int _ _)) _ _ _); k_dflt (refine' item_strs1 ?N ?m ?e ?a ?b ?f ?_; (case N => k_asm); (case m => k_mem); (case e => assumption); (case a => omega); (case b => omega); (case f => omega)); intro t9))
local macro_rules | `(tactic| walk_at "InvEndN") => `(tactic| (refine Stop.out ?_))
local macro_rules | `(tactic| walk_at "setItem ref str") => `(tactic| (k_here; k_dflt (refine' setItem_K PyProof.V.same_str (strKind_is _ _ _ _) ?v ?F ?N ?U ?d ?f ?_ ?z; (case F => k_asm); (case N => k_asm); (case U => k_updF); (case d => k_asm); (case f => k_asm); (case z => (rw [sizeLine_eq]; omega)); (case v => k_flat)); intro h' o' F' N' hd' hf'; (try dsimp only at N'); (try k_sweep)))
local macro_rules | `(tactic| walk_at "eval ListComp") => `(tactic| (refine Stop.out ?_))
local macro_rules | `(tactic| walk_at "CompEnd") => `(tactic| (refine Stop.out ?_))
local macro_rules | `(tactic| walk_at "call builtin:dict.get") => `(tactic| (k_here; k_dflt (refine get2_pairs (by k_tabat) ?_); intro t9))
local macro_rules | `(tactic| walk_at "call builtin:str.join") => `(tactic| (k_here; (with_reducible show wpAny _ _ (call (Value.builtin "str.join") [Value.str _ _, Value.ref _]) _ _ _); k_dflt (refine' join_chr ?N ?m ?s ?l ?_; (case N => k_asm); (case m => k_mem); (case s => assumption); (case l => assumption)); intro t9 k9))
theorem chartr_none (w : World) (p : Program) (loose : List Str) (mean : ExcName → Option Value) (mg mb : Str → Option Value)
   (old new : Str) (to tn : Tok) (bs ns : List Nat) (rest : List (Addr × Obj))
   (Hold : ∀ tx rest, Does PySem.Challenge.rw_pq1312_01.row.prog w (hd.heap_39 w.params) p loose mean mg mb 74 [.str old tx] rest 900 9000 (SpreadPost rest bs))
   (Hnew : ∀ tx rest, Does PySem.Challenge.rw_pq1312_01.row.prog w (hd.heap_39 w.params) p loose mean mg mb 74 [.str new tx] rest 900 9000 (SpreadPost rest ns))
   (hlen : bs.length ≤ ns.length) (hns : ns.length ≤ 100) :
   Does PySem.Challenge.rw_pq1312_01.row.prog w (hd.heap_39 w.params) p loose mean mg mb 79 [.str old to, .str new tn, .none] rest 800 8000
     (fun r news' => r = .none ∧ news' = rest) := by
  k_fill
  w_top off
  k_with_none
  unfold Does
  intro dp un gd cn cs a ccd cl outer A₀ base h₀ L m s Q E B F X N T hk hdp hun hret
  refine wpAny_call ?_
  k_dflt (refine' code_defC ?k1 ?k2 ?k3 ?k4 ?k5 ?kA ?kF ?kK ?k6 ?k7 ?k8 ?k9 ?kB ?kD ?_ ?c2 ?c3 ?c4; (case kA => exact rfl); (case kF => exact rfl); (case kK => assumption); (case k1 => k_asm); (case k2 => k_asm); (case k3 => k_asm); (case k4 => k_asm); (case k5 => k_asm); (case k6 => k_is); (case k7 => k_is); (case k8 => ktr_room); (case k9 => exact BindsTo.of_eq rfl); (case kB => exact rfl); (case kD => decide +kernel); (case c2 => exact rfl); (case c3 => exact rfl); (case c4 => exact rfl); k_whole)
  intro g' L' h' tk' cells' FG' F' N' Y' B' X' T' l1
  (try k_lt l1); k_cells Y'; (try simp only [List.cons_append, List.nil_append] at N'); (try dsimp only); (try k_lift B'); (try k_fold)
  k_steps
  unfold Stop
  k_dflt (refine' (Hold _ _) _ _ _ _ _ _ _ _ _ _ _ _ _ _ _ _ _ ?k1 ?k2 ?k3 ?k4 ?k5 ?k6 ?k7 ?k8 ?_)
  (case k1 => k_asm); (case k2 => k_asm); (case k3 => k_asm); (case k4 => k_asm); (case k5 => k_asm); (case k6 => exact rfl); (case k7 => ktr_room); (case k8 => ktr_units)
  intro r9 news9 h9 tk9 hp9 F9 N9
  obtain ⟨a1, vs1, n1, e1, hvs1, hlt1, e2⟩ := hp9
  subst e1; subst e2
  (try k_lt hlt1)
  try dsimp only
  try k_fold
  k_steps
  unfold Stop
  k_dflt (refine' (Hnew _ _) _ _ _ _ _ _ _ _ _ _ _ _ _ _ _ _ _ ?k1 ?k2 ?k3 ?k4 ?k5 ?k6 ?k7 ?k8 ?_)
  (case k1 => k_asm); (case k2 => k_asm); (case k3 => k_asm); (case k4 => k_asm); (case k5 => k_asm); (case k6 => exact rfl); (case k7 => ktr_room); (case k8 => ktr_units)
  intro r9 news9 h9 tk9 hp9 F9 N9
  obtain ⟨a2, vs2, n2, e1, hvs2, hlt2, e2⟩ := hp9
  subst e1; subst e2
  (try k_lt hlt2)
  try dsimp only
  try k_fold
  have hl1 : vs1.length = bs.length := by rw [StrsAre.length hvs1, List.length_map]
  have hl2 : vs2.length = ns.length := by rw [StrsAre.length hvs2, List.length_map]
  have hr1 : ∀ q ∈ rest, q.1 ≠ L' + 1 := fun q hq => Nat.ne_of_lt (Nat.lt_succ_of_lt (l1 q hq))
  k_steps
  rename News h₀ L _ _ => kN
  rename Fr h₀ L _ m => kF
  refine hret _ _ _ _ ⟨rfl, rfl⟩ kF (fun p hp => kN p (by simp only [List.mem_cons]; grind))
end Mine
end
section
open PySem PySem.W PyProof.Rows PySem.Spec PySem.Calls PySem.Builtin PySem.Builtin.Str
set_option maxRecDepth 100000
namespace Mine
abbrev mk (l : List Nat) : Str := ⟨l.toArray⟩
abbrev cl (x : Str) : List Nat := x.cps.toList
theorem mk_cl (x : Str) : mk (cl x) = x := rfl
theorem cl_len (x : Str) : (cl x).length = x.length := by simp [Str.length]
theorem rev_mk (x : Str) (u : Tok) : Txt.sliceBy x none none (-1, u) = mk (cl x).reverse := by
  refine Str.ext' (Array.toList_inj.mp ?_)
  rw [step_rev_list]
  show _ = (cl x).reverse
  apply List.ext_getElem
  · simp [Str.length]
  · intro i h1 h2
    simp only [List.length_map, List.length_range] at h1
    have h3 : x.length = x.cps.size := rfl
    have h4 : x.cps.size - 1 - i < x.cps.size := by omega
    simp [h4, Array.getD, h3]
theorem take_min {α : Type} (l : List α) (i j : Nat) (_ : i ≤ j) : (l.drop (min i l.length)).take (min j l.length - min i l.length) = (l.drop i).take (j - i) := by
  by_cases hi : i ≤ l.length
  · rw [Nat.min_eq_left hi]
    by_cases hj : j ≤ l.length
    · rw [Nat.min_eq_left hj]
    · rw [Nat.min_eq_right (by omega), List.take_of_length_le (by rw [List.length_drop]; omega), List.take_of_length_le (by rw [List.length_drop]; omega)]
  · have e1 : l.drop (min i l.length) = [] := by rw [List.drop_eq_nil_iff]; omega
    have e2 : l.drop i = [] := by rw [List.drop_eq_nil_iff]; omega
    rw [e1, e2]; simp
theorem idx_clip (i j n : Nat) : strSliceIndices (some (i : Int)) (some (j : Int)) 1 n = strSliceIndices (some ((min i n : Nat) : Int)) (some ((min j n : Nat) : Int)) 1 n := by
  have a1 : ¬ ((i : Int) < 0) := by omega
  have a2 : ¬ ((j : Int) < 0) := by omega
  have a3 : ¬ (((min i n : Nat) : Int) < 0) := by omega
  have a4 : ¬ (((min j n : Nat) : Int) < 0) := by omega
  have e1 : max (0 : Int) (min (i : Int) (n : Int)) = ((min i n : Nat) : Int) := by omega
  have e2 : max (0 : Int) (min (j : Int) (n : Int)) = ((min j n : Nat) : Int) := by omega
  have e3 : max (0 : Int) (min ((min i n : Nat) : Int) (n : Int)) = ((min i n : Nat) : Int) := by omega
  have e4 : max (0 : Int) (min ((min j n : Nat) : Int) (n : Int)) = ((min j n : Nat) : Int) := by omega
  unfold strSliceIndices
  simp only [a1, a2, a3, a4, if_false, show (1 : Int) > 0 by decide, if_true, e1, e2, e3, e4]
theorem slice_ss (x : Str) (i j : Nat) : Txt.slice x (some (i : Int)) (some (j : Int)) = mk (((cl x).drop i).take (j - i)) := by
  by_cases h : i ≤ j
  · have e : Txt.slice x (some (i : Int)) (some (j : Int)) = StrLaws.sliceText x (some ((min i x.length : Nat) : Int)) (some ((min j x.length : Nat) : Int)) := by
      show StrLaws.sliceText x _ _ = _
      unfold StrLaws.sliceText
      rw [idx_clip]
    rw [e, StrLaws.sliceText_nat x (by omega) (by omega)]
    have := take_min (cl x) i j h
    rw [cl_len] at this
    rw [this]
  · have e0 : strSliceIndices (some (i : Int)) (some (j : Int)) 1 x.length = [] := by
      have a1 : ¬ ((i : Int) < 0) := by omega
      have a2 : ¬ ((j : Int) < 0) := by omega
      unfold strSliceIndices sliceRange
      simp only [a1, a2, if_false, show (1 : Int) > 0 by decide, if_true]
      rw [if_neg (by omega)]
      rfl
    unfold Txt.slice
    rw [e0]
    have e1 : j - i = 0 := by omega
    rw [e1, List.take_zero]
    by_cases hx : x.length = 0
    · have : x = mk [] := by
        refine Str.ext' ?_
        have : x.cps.size = 0 := hx
        exact Array.eq_empty_of_size_eq_zero this
      rw [this]; simp
    · rw [if_neg (by simp; omega)]
      rfl
theorem slice_ns (x : Str) (j : Nat) : Txt.slice x none (some (j : Int)) = mk ((cl x).take j) := by
  have e : Txt.slice x none (some (j : Int)) = Txt.slice x (some ((0 : Nat) : Int)) (some (j : Int)) := by
    unfold Txt.slice; rw [StrLaws.sliceIdx_none_lo]; rfl
  rw [e, slice_ss]; simp
theorem slice_sn (x : Str) (i : Nat) : Txt.slice x (some (i : Int)) none = mk ((cl x).drop i) := by
  have e : Txt.slice x (some (i : Int)) none = Txt.slice x (some (i : Int)) (some (x.length : Int)) := by
    unfold Txt.slice; rw [StrLaws.sliceIdx_none_hi]
  rw [e, slice_ss, List.take_of_length_le (by rw [List.length_drop, cl_len]; exact Nat.le_refl _)]
theorem slice_ssI (x : Str) {i j : Int} (hi : 0 ≤ i) (hj : 0 ≤ j) : Txt.slice x (some i) (some j) = mk (((cl x).drop i.toNat).take (j.toNat - i.toNat)) := by
  obtain ⟨a, rfl⟩ := Int.eq_ofNat_of_zero_le hi
  obtain ⟨b, rfl⟩ := Int.eq_ofNat_of_zero_le hj
  exact slice_ss x a b
theorem slice_nsI (x : Str) {j : Int} (hj : 0 ≤ j) : Txt.slice x none (some j) = mk ((cl x).take j.toNat) := by
  obtain ⟨b, rfl⟩ := Int.eq_ofNat_of_zero_le hj
  exact slice_ns x b
theorem slice_snI (x : Str) {i : Int} (hi : 0 ≤ i) : Txt.slice x (some i) none = mk ((cl x).drop i.toNat) := by
  obtain ⟨a, rfl⟩ := Int.eq_ofNat_of_zero_le hi
  exact slice_sn x a
theorem append_mk (a b : List Nat) : mk a ++ mk b = mk (a ++ b) := by
  refine Str.ext' ?_
  rw [Str.cps_append]
  simp
theorem asg_val (text value : Str) {F C : Int} {f c : Nat} (hF : F = f) (hC : C = c) (h1 : 1 ≤ f) :
    Txt.slice text none (some (F - 1)) ++ Txt.slice value none (some C) ++ Txt.slice text (some (F - 1 + C)) none = mk ((cl text).take (f - 1) ++ (cl value).take c ++ (cl text).drop (f - 1 + c)) := by
  subst hF; subst hC
  have e1 : ((f : Int) - 1).toNat = f - 1 := by omega
  have e2 : ((f : Int) - 1 + (c : Int)).toNat = f - 1 + c := by omega
  rw [slice_nsI text (by omega), slice_nsI value (by omega), slice_snI text (by omega), append_mk, append_mk, e1, e2]
  rfl
theorem mk_inj {a b : List Nat} (h : mk a = mk b) : a = b := by injection h with h; simpa using h
end Mine
end
section
open PySem PySem.W PyProof.Rows PySem.Spec PySem.Calls
set_option maxRecDepth 100000
set_option maxHeartbeats 8000000
set_option pp.deepTerms false
set_option pp.deepTerms.threshold 12
namespace Mine
local macro_rules | `(tactic| k_all) => `(tactic| assumption)
local macro_rules | `(tactic| units_room) => `(tactic| (have hcL9 := cLine_is; (simp only [units_in1, units_deeper, Around.mark_units, units_caller]); (try dsimp only [ktrTop]); omega))
local macro_rules | `(tactic| k_units) => `(tactic| (have hcL9 := cLine_is; (simp only [units_in1, units_deeper, Around.mark_units, units_caller]); (try dsimp only [ktrTop]); omega))
local macro_rules | `(tactic| ktr_room) => `(tactic| ((try simp only [depth_under_make, depth_under_kw, depth_in1, depth_deeper, depth_caller]); (try dsimp only [ktrTop]); (simp only [recursionLimit]); omega))
local macro_rules | `(tactic| k_room) => `(tactic| ((try simp only [depth_under_make, depth_under_kw, depth_in1, depth_deeper, depth_caller]); (try dsimp only [ktrTop]); (simp only [recursionLimit]); omega))


theorem rev_c (w : World) (p : Program) (loose : List Str) (mean : ExcName → Option Value) (mg mb : Str → Option Value)
   (text : Str) (tt : Tok) (rest : List (Addr × Obj)) (htx : text.length ≤ 100) :
   Does PySem.Challenge.rw_pq1312_01.row.prog w (hd.heap_39 w.params) p loose mean mg mb 86 [.str text tt] rest 900 9000
     (fun r news' => ∃ t, r = .str (mk (cl text).reverse) t ∧ news' = rest) := by
  k_fill
  w_top off
  k_with_none
  unfold Does
  intro dp un gd cn cs a ccd cl outer A₀ base h₀ L m s Q E B F X N T hk hdp hun hret
  refine wpAny_call ?_
  k_dflt cell_enter
  k_steps
  rename News h₀ L _ _ => kN; rename Fr h₀ L _ _ => kF
  exact hret _ _ _ _ ⟨_, by rw [rev_mk], rfl⟩ kF kN
def subL (l : List Nat) (a b : Nat) : List Nat := (l.drop (a - 1)).take (b - (a - 1))
theorem sub_c (w : World) (p : Program) (loose : List Str) (mean : ExcName → Option Value) (mg mb : Str → Option Value)
   (text : Str) (tt : Tok) (i j : Nat) (ta tb : Tok) (rest : List (Addr × Obj)) (htx : text.length ≤ 100) (ha2 : i ≤ 1000) (hb2 : j ≤ 1000) :
   Does PySem.Challenge.rw_pq1312_01.row.prog w (hd.heap_39 w.params) p loose mean mg mb 60 [.str text tt, .int (i : Int) ta, .int (j : Int) tb] rest 900 9000
     (fun r news' => ∃ t, r = .str (mk (subL (cl text) i j)) t ∧ news' = rest) := by
  k_fill
  w_top off
  k_with_none
  unfold Does
  intro dp un gd cn cs a ccd clo outer A₀ base h₀ L m s Q E B F X N T hk hdp hun hret
  refine wpAny_call ?_
  k_dflt cell_enter
  k_steps
  all_goals (rename News h₀ L _ _ => kN; rename Fr h₀ L _ _ => kF)
  · rename _ < ite _ _ _ => hlt
    refine hret _ _ _ _ ⟨_, congrArg (fun z => Value.str z _) ?_, rfl⟩ kF kN
    have e : j - (i - 1) = 0 := by split at hlt <;> omega
    unfold subL
    rw [e, List.take_zero]
    rfl
  · rename ¬ (_ < ite _ _ _) => hlt
    refine hret _ _ _ _ ⟨_, congrArg (fun z => Value.str z _) ?_, rfl⟩ kF kN
    unfold subL
    rw [slice_ssI text (by split <;> omega) (by omega)]
    have e : ((if 1 > (i : Int) then 1 else (i : Int)) - 1).toNat = i - 1 := by split <;> omega
    rw [e]
    rfl
def asgL (l : List Nat) (i j : Nat) (v : List Nat) : List Nat :=
  if min j l.length < max i 1 then l else l.take (max i 1 - 1) ++ v.take (min (min j l.length - (max i 1 - 1)) v.length) ++ l.drop (max i 1 - 1 + min (min j l.length - (max i 1 - 1)) v.length)
theorem asg_c (w : World) (p : Program) (loose : List Str) (mean : ExcName → Option Value) (mg mb : Str → Option Value)
   (text value : Str) (tt tv : Tok) (i j : Nat) (ta tb : Tok) (rest : List (Addr × Obj)) (htx : text.length ≤ 100) (hv : value.length ≤ 100) (ha2 : i ≤ 1000) (hb2 : j ≤ 1000) :
   Does PySem.Challenge.rw_pq1312_01.row.prog w (hd.heap_39 w.params) p loose mean mg mb 67 [.str text tt, .int (i : Int) ta, .int (j : Int) tb, .str value tv] rest 900 9000
     (fun r news' => ∃ t, r = .str (mk (asgL (cl text) i j (cl value))) t ∧ news' = rest) := by
  k_fill
  w_top off
  k_with_none
  unfold Does
  intro dp un gd cn cs a ccd clo outer A₀ base h₀ L m s Q E B F X N T hk hdp hun hret
  refine wpAny_call ?_
  k_dflt cell_enter
  k_steps
  all_goals (rename News h₀ L _ _ => kN; rename Fr h₀ L _ _ => kF)
  · rename ite _ _ _ < ite _ _ _ => hlt
    refine hret _ _ _ _ ⟨_, congrArg (fun z => Value.str z _) ?_, rfl⟩ kF kN
    unfold asgL
    rw [if_pos (by rw [cl_len]; split at hlt <;> split at hlt <;> omega)]
  · rename ¬ (ite _ _ _ < ite _ _ _) => hlt
    refine hret _ _ _ _ ⟨_, congrArg (fun z => Value.str z _) ?_, rfl⟩ kF kN
    have hlt2 : ¬ (min j text.length < max i 1) := by split at hlt <;> split at hlt <;> omega
    have e9 : asgL (cl text) i j (cl value) = (cl text).take (max i 1 - 1) ++ (cl value).take (min (min j text.length - (max i 1 - 1)) value.length) ++ (cl text).drop (max i 1 - 1 + min (min j text.length - (max i 1 - 1)) value.length) := by
      unfold asgL
      rw [cl_len, cl_len, if_neg hlt2]
    rw [e9]
    refine asg_val text value ?_ ?_ (by omega)
    · split <;> omega
    · repeat' split
      all_goals omega
theorem asgn_c (w : World) (p : Program) (loose : List Str) (mean : ExcName → Option Value) (mg mb : Str → Option Value)
   (text : Str) (tt : Tok) (i j : Nat) (ta tb : Tok) (rest : List (Addr × Obj)) :
   Does PySem.Challenge.rw_pq1312_01.row.prog w (hd.heap_39 w.params) p loose mean mg mb 67 [.str text tt, .int (i : Int) ta, .int (j : Int) tb, .none] rest 900 9000
     (fun r news' => r = .none ∧ news' = rest) := by
  k_fill
  w_top off
  k_with_none
  unfold Does
  intro dp un gd cn cs a ccd clo outer A₀ base h₀ L m s Q E B F X N T hk hdp hun hret
  refine wpAny_call ?_
  k_dflt cell_enter
  k_steps
  rename News h₀ L _ _ => kN; rename Fr h₀ L _ _ => kF
  exact hret _ _ _ _ ⟨rfl, rfl⟩ kF kN
end Mine
end
section
open PySem PySem.W PyProof.Rows PySem.Spec PySem.Calls PySem.Builtin PySem.Builtin.Str PySem.StrLaws
set_option maxRecDepth 100000
namespace Mine
theorem sub_at_up (x y : Str) {a b i : Nat} (hy : 1 ≤ y.length) (hb : b ≤ x.length) (h : At (strSub x a b) y (strSub x a b).length i) : At x y x.length (a + i) ∧ a + i < b := by
  obtain ⟨h1, h2⟩ := h
  have hl : (strSub x a b).length = ((x.cps.toList.drop a).take (b - a)).length := by rw [← strSub_toList]; simp [Str.length]
  have hl2 : (strSub x a b).length ≤ b - a := by rw [hl, List.length_take]; exact Nat.min_le_left _ _
  refine ⟨⟨by omega, ?_⟩, by omega⟩
  rw [subAt_eq] at h2 ⊢
  rw [strSub_toList] at h2
  rw [List.drop_take, List.take_take, List.drop_drop, Nat.min_eq_left (by omega)] at h2
  exact h2
theorem parts_freeG (x y : Str) (hy : 1 ≤ y.length) : ∀ (cuts : List Nat) (a f : Nat), ChainG x y x.length a cuts f → (∀ k, f ≤ k → ¬ At x y x.length k) → ∀ p ∈ partsFrom x y.length a cuts, ∀ i, ¬ At p y p.length i
  | [], a, f, h, hn, p, hp, i => by
    have e : f = a := h
    subst e
    rw [List.mem_singleton.mp hp]
    intro hA
    have := sub_at_up x y hy (Nat.le_refl _) hA
    exact hn (f + i) (by omega) this.1
  | d :: r, a, f, h, hn, p, hp, i => by
    rcases List.mem_cons.mp hp with rfl | hp'
    · intro hA
      have hd : d ≤ x.length := by have := h.2.1.1; omega
      have := sub_at_up x y hy hd hA
      exact h.2.2.1 (a + i) (by omega) this.2 this.1
    · exact parts_freeG x y hy r _ f h.2.2.2 hn p hp' i
theorem no_occ {p y : Str} (h : ∀ i, ¬ At p y p.length i) : occurrences p y 0 p.length 1 = [] := by
  rcases occ_head p y 1 (Nat.le_refl 1) with ⟨e, _⟩ | ⟨i, r, _, hA, _⟩
  · exact e
  · exact absurd hA (h i)
theorem split_freeG (x y : Str) (hy : 1 ≤ y.length) (hk : Builtin.Str.strKind y = 1) : ∀ p ∈ Txt.split x y, occurrences p y 0 p.length 1 = [] := by
  obtain ⟨f, hG, hn⟩ := occ_tight x y hy
  intro p hp
  refine no_occ ?_
  unfold Txt.split at hp
  split at hp
  · rename_i hc
    rw [List.mem_singleton.mp hp]
    intro i hA
    rw [Bool.or_eq_true, decide_eq_true_eq, decide_eq_true_eq, hk] at hc
    rcases hc with h | h
    · have := hA.1; omega
    · unfold Builtin.Str.strKind at h
      split at h
      · omega
      · split at h <;> omega
  · split at hp
    · rename_i he
      rw [List.mem_singleton.mp hp]
      have e0 : occurrences x y 0 x.length (x.length + 1) = [] := List.isEmpty_iff.mp he
      rw [e0] at hG
      have ef : f = 0 := hG
      subst ef
      exact fun i => hn i (Nat.zero_le _)
    · rw [partsBetween_eq] at hp
      exact parts_freeG x y hy _ 0 f hG hn p hp
def trimL (ws : List Str) : List Str := if ws.getLast? = some (Str.ofString "") then ws.dropLast else ws
theorem e_empty : Str.ofString "" = Str.empty := by decide +kernel
theorem glue_split (x y : Str) : Str.join y (trimL (Txt.split x y)) = x ∨ Str.join y (trimL (Txt.split x y)) ++ y = x := by
  have hj := join_split x y
  unfold trimL
  split
  · rename_i hl
    generalize hw : Txt.split x y = ws at hl hj ⊢
    have hne : ws ≠ [] := by intro e; rw [e] at hl; cases hl
    have e1 : ws = ws.dropLast ++ [Str.ofString ""] := by
      rw [List.getLast?_eq_some_getLast hne] at hl
      have h2 := List.dropLast_concat_getLast hne
      rw [Option.some.inj hl] at h2
      exact h2.symm
    by_cases hd : ws.dropLast = []
    · left
      rw [hd] at e1 ⊢
      rw [e1] at hj
      rw [← hj, e_empty]; rfl
    · right
      rw [e1, PyProof.Rows.FinIter.join_snoc, if_neg hd, e_empty] at hj
      have e9 : ∀ z : Str, z ++ Str.empty = z := fun z => Str.append_empty z
      rw [e9] at hj
      exact hj
  · exact .inl hj
theorem trim_mem {ws : List Str} {p : Str} (h : p ∈ trimL ws) : p ∈ ws := by
  unfold trimL at h
  split at h
  · exact List.dropLast_subset _ h
  · exact h
theorem split_ne (x y : Str) : Txt.split x y ≠ [] := by
  unfold Txt.split
  split
  · simp
  · split
    · simp
    · rw [partsBetween_eq]
      obtain ⟨p, r, e⟩ := partsFrom_ne x y.length 0 (occurrences x y 0 x.length (x.length + 1))
      rw [e]; simp
end Mine
end
section
open PySem PySem.W PyProof.Rows PySem.Spec PySem.Calls PySem.Builtin.Str
set_option maxRecDepth 100000
set_option maxHeartbeats 8000000
set_option pp.deepTerms false
set_option pp.deepTerms.threshold 8
namespace Mine
local macro_rules | `(tactic| walk_at "mine_no_such_node") => `(tactic| fail)
local macro_rules | `(tactic| walk_at "mine_no_such_node") => `(tactic| fail)
local macro_rules | `(tactic| walk_at "mine_no_such_node") => `(tactic| fail)
local macro_rules | `(tactic| walk_at "mine_no_such_node") => `(tactic| fail)
local macro_rules | `(tactic| walk_at "mine_no_such_node") => `(tactic| fail)
local macro_rules | `(tactic| walk_at "mine_no_such_node") => `(tactic| fail)
local macro_rules | `(tactic| walk_at "mine_no_such_node") => `(tactic| fail)
local macro_rules | `(tactic| walk_at "mine_no_such_node") => `(tactic| fail)
local macro_rules | `(tactic| walk_at "mine_no_such_node") => `(tactic| fail)
local macro_rules | `(tactic| walk_at "mine_no_such_node") => `(tactic| fail)
local macro_rules | `(tactic| walk_at "mine_no_such_node") => `(tactic| fail)
local macro_rules | `(tactic| walk_at "mine_no_such_node") => `(tactic| fail)
local macro_rules | `(tactic| walk_at "mine_no_such_node") => `(tactic| fail)
local macro_rules | `(tactic| walk_at "mine_no_such_node") => `(tactic| fail)
local macro_rules | `(tactic| walk_at "mine_no_such_node") => `(tactic| fail)
local macro_rules | `(tactic| walk_at "mine_no_such_node") => `(tactic| fail)
local macro_rules | `(tactic| walk_at "mine_no_such_node") => `(tactic| fail)
local macro_rules | `(tactic| walk_at "mine_no_such_node") => `(tactic| fail)
local macro_rules | `(tactic| walk_at "mine_no_such_node") => `(tactic| fail)
local macro_rules | `(tactic| walk_at "mine_no_such_node") => `(tactic| fail)
local macro_rules | `(tactic| walk_at "mine_no_such_node") => `(tactic| fail)
local macro_rules | `(tactic| walk_at "mine_no_such_node") => `(tactic| fail)
local macro_rules | `(tactic| walk_at "mine_no_such_node") => `(tactic| fail)
local macro_rules | `(tactic| walk_at "mine_no_such_node") => `(tactic| fail)
local macro_rules | `(tactic| walk_at "mine_no_such_node") => `(tactic| fail)
local macro_rules | `(tactic| walk_at "mine_no_such_node") => `(tactic| fail)
local macro_rules | `(tactic| walk_at "mine_no_such_node") => `(tactic| fail)
section
variable {prog : Program} {w : World} {A : Around} {E : Value → Shared → Prop} {s : Shared} {h₀ : Heap} {L D : Addr} {m : Str → Option Value} {news news' : List (Addr × Obj)} {n : Nat}
theorem strs_last {vs : List Value} {ws : List Str} (h : StrsAre vs ws) (hne : ws ≠ []) : ∃ t, vs[vs.length - 1]? = some (.str (ws.getLastD Str.empty) t) := by
  induction h with
  | nil => exact absurd rfl hne
  | @cons y t vs ys r ih =>
    cases ys with
    | nil => cases r; exact ⟨t, rfl⟩
    | cons z zs =>
      obtain ⟨t', e⟩ := ih (by simp)
      cases r with
      | cons _ t2 r2 =>
        refine ⟨t', ?_⟩
        simp only [List.length_cons] at e ⊢
        simpa using e
theorem strs_init {vs : List Value} {ws : List Str} (h : StrsAre vs ws) : StrsAre vs.dropLast ws.dropLast := by
  induction h with
  | nil => exact .nil
  | @cons y t vs ys r ih =>
    cases r with
    | nil => exact .nil
    | cons y2 t2 r2 => exact .cons y t ih
theorem item_last {value slice : Expr} {vs : List Value} {ws : List Str} {u : Tok} {Q : Value → Shared → Prop} (N : News h₀ L s.heap news) (hm : (D, W.listOf vs.toArray n) ∈ news)
    (hs1 : StrsAre vs ws) (hne : ws ≠ []) (h : ∀ t, Q (.str (ws.getLastD Str.empty) t) s)
    (hs : subscripted slice false (.ref D) (.int (-1) u) = operate [.ref D, .int (-1) u] (getItem (.ref D) (.int (-1) u)) := by with_unfolding_all rfl) :
    wpAny (model prog w) A (subscriptTail value slice (.ref D) (.int (-1) u)) Q E s := by
  have hL : s.heap.IsList D vs.toArray := ⟨_, (N _ hm).1, rfl, _, rfl⟩
  obtain ⟨t, ht⟩ := strs_last hs1 hne
  have hlen : vs.length = ws.length := StrsAre.length hs1
  have hpos : 0 < ws.length := List.length_pos_iff.mpr hne
  refine tail_any hL.typeIs slot_list_getitem.lookup (wpAny_getItem_list_neg hL (by decide) (by simp; omega) (by decide) ?_ (h t)) hs
  have e : (-1 + (vs.toArray.size : Int)).toNat = vs.length - 1 := by simp; omega
  rw [e]
  simpa using ht
theorem pop_last {vs : List Value} {Q : Value → Shared → Prop} (F : Fr h₀ L s.heap m) (N : News h₀ L s.heap news)
    (U : Upd D (W.listOf vs.toArray n) (W.listOf vs.dropLast.toArray (n + 1)) news news') (hne : vs ≠ []) (hz : vs.length ≤ 1000)
    (h : ∀ v h', Fr h₀ L h' m → News h₀ L h' news' → Q v { s with heap := h' }) : wpAny (model prog w) A (call (.builtin "list.pop") [.ref D]) Q E s := by
  refine kl_pop F N (p := vs.dropLast) (y := vs.getLast hne) ?_ U (by rw [sizeLine_eq]; simpa using Nat.le_trans hz (by decide)) fun h' F' N' => h _ h' F' N'
  have e := kpa_last (vs.getLast hne) vs.dropLast
  rw [List.dropLast_concat_getLast hne] at e
  simpa using e
end
theorem trimL_pop {ws : List Str} (hne : ws ≠ []) (h : (ws.getLastD Str.empty == Str.ofString "") = true) : trimL ws = ws.dropLast := by
  unfold trimL
  rw [if_pos]
  have e := eq_of_beq h
  rw [List.getLast?_eq_some_getLast hne]
  rw [List.getLastD_eq_getLast?, List.getLast?_eq_some_getLast hne] at e
  exact congrArg some e
theorem trimL_keep {ws : List Str} (h : (ws.getLastD Str.empty == Str.ofString "") = false) : trimL ws = ws := by
  unfold trimL
  rw [if_neg]
  intro e
  rw [List.getLastD_eq_getLast?, e] at h
  simp at h
local macro_rules | `(tactic| k_all) => `(tactic| assumption)
local macro_rules | `(tactic| units_room) => `(tactic| (have hcL9 := cLine_is; (simp only [units_in1, units_deeper, Around.mark_units, units_caller]); (try dsimp only [ktrTop]); omega))
local macro_rules | `(tactic| k_units) => `(tactic| (have hcL9 := cLine_is; (simp only [units_in1, units_deeper, Around.mark_units, units_caller]); (try dsimp only [ktrTop]); omega))
local macro_rules | `(tactic| ktr_room) => `(tactic| ((try simp only [depth_under_make, depth_under_kw, depth_in1, depth_deeper, depth_caller]); (try dsimp only [ktrTop]); (simp only [recursionLimit]); omega))
local macro_rules | `(tactic| k_room) => `(tactic| ((try simp only [depth_under_make, depth_under_kw, depth_in1, depth_deeper, depth_caller]); (try dsimp only [ktrTop]); (simp only [recursionLimit]); omega))
local macro_rules | `(tactic| walk_at "execs cons") => `(tactic| (k_extra "PRUNE"))
local macro_rules | `(tactic| walk_at "call builtin:str.split") => `(tactic| (refine Stop.out ?_))
local macro_rules | `(tactic| walk_at "subscriptTail") => `(tactic| (k_here; (with_reducible show wpAny _ _ (subscriptTail _ _ (Value.ref _) (Value.int _ _)) _ _ _); k_dflt (refine' item_last ?N ?m ?s ?e ?_; (case N => k_asm); (case m => k_mem); (case s => assumption); (case e => assumption)); intro t9))
local macro_rules | `(tactic| walk_at "call builtin:list.pop") => `(tactic| (k_here; (with_reducible show wpAny _ _ (call (Value.builtin _) [Value.ref _]) _ _ _); k_dflt (refine' pop_last ?F ?N ?U ?e ?z ?_; (case F => k_asm); (case N => k_asm); (case U => k_upd); (case e => assumption); (case z => assumption)); intro v9 h9 F9 N9; (try dsimp only at N9)))
def ListPost (rest : List (Addr × Obj)) (ws : List Str) (r : Value) (news' : List (Addr × Obj)) : Prop :=
  ∃ (a : Nat) (vs : List Value) (n : Nat), r = .ref a ∧ StrsAre vs ws ∧ news' = (a, W.listOf vs.toArray n) :: rest
theorem split_c (w : World) (p : Program) (loose : List Str) (mean : ExcName → Option Value) (mg mb : Str → Option Value)
   (text sep : Str) (tt ts : Tok) (rest : List (Addr × Obj)) (htx : text.length ≤ 100) (hsep : (sep.length == 0) = false) (hsep2 : (sep == Str.ofString "") = false) :
   Does PySem.Challenge.rw_pq1312_01.row.prog w (hd.heap_39 w.params) p loose mean mg mb 53 [.str text tt, .str sep ts] rest 900 9000
     (ListPost rest (trimL (Txt.split text sep))) := by
  k_fill
  w_top off
  k_with_none
  unfold Does
  intro dp un gd cn cs a ccd clo outer A₀ base h₀ L m s Q E B F X N T hk hdp hun hret
  refine wpAny_call ?_
  k_with "PRUNE" => ((rename (_ == Str.ofString "") = true => hc); exfalso; rw [hsep2] at hc; cases hc)
  k_dflt cell_enter
  k_steps
  unfold Stop
  rename Fr _ _ _ _ => lF; rename News _ _ _ _ => lN
  refine splitN1A (hsz := by rw [sizeLine_eq]; omega) lF lN hsep ?_
  intro l h' k hl hS hsh hL F' N'
  have l1 : ∀ q ∈ rest, q.1 < _ := fun q hq => Heap.lt_size (lN q hq).1
  have hr1 : ∀ q ∈ rest, q.1 ≠ _ := fun q hq => Nat.ne_of_lt (l1 q hq)
  rw [hl] at hS
  generalize hvs : strValues l = vs at *
  generalize hws : Txt.split text sep = ws at *
  have hne : ws ≠ [] := by rw [← hws]; exact split_ne _ _
  have hvl : vs.length = ws.length := StrsAre.length hS
  have hvl1000 : vs.length ≤ 1000 := by
    have e1 : 1 ≤ sep.length := by simp only [beq_eq_false_iff_ne, ne_eq] at hsep; omega
    have e2 := split_weight text sep e1
    rw [hws] at e2
    omega
  have hvne : vs ≠ [] := by intro e; rw [e] at hvl; exact hne (List.eq_nil_of_length_eq_zero hvl.symm)
  clear hL lF
  try k_fold
  k_steps
  · rename News h₀ L _ _ => kN
    rename Fr h₀ L _ m => kF
    rename (_ == Str.ofString "") = true => hc
    refine hret _ _ _ _ ⟨_, vs.dropLast, 1, rfl, ?_, rfl⟩ kF kN
    rw [trimL_pop hne hc]
    exact strs_init hS
  · rename News h₀ L _ _ => kN
    rename Fr h₀ L _ m => kF
    rename (_ == Str.ofString "") = false => hc
    refine hret _ _ _ _ ⟨_, vs, 0, rfl, ?_, rfl⟩ kF kN
    rw [trimL_keep hc]
    exact hS
end Mine
end
section
open PySem PySem.W PyProof.Rows PySem.Spec PySem.Calls PySem.Builtin.Str
set_option maxRecDepth 100000
set_option maxHeartbeats 8000000
set_option pp.deepTerms false
set_option pp.deepTerms.threshold 8
namespace Mine
local macro_rules | `(tactic| k_all) => `(tactic| assumption)
local macro_rules | `(tactic| units_room) => `(tactic| (have hcL9 := cLine_is; (simp only [units_in1, units_deeper, Around.mark_units, units_caller]); (try dsimp only [ktrTop]); omega))
local macro_rules | `(tactic| k_units) => `(tactic| (have hcL9 := cLine_is; (simp only [units_in1, units_deeper, Around.mark_units, units_caller]); (try dsimp only [ktrTop]); omega))
local macro_rules | `(tactic| ktr_room) => `(tactic| ((try simp only [depth_under_make, depth_under_kw, depth_in1, depth_deeper, depth_caller]); (try dsimp only [ktrTop]); (simp only [recursionLimit]); omega))
local macro_rules | `(tactic| k_room) => `(tactic| ((try simp only [depth_under_make, depth_under_kw, depth_in1, depth_deeper, depth_caller]); (try dsimp only [ktrTop]); (simp only [recursionLimit]); omega))
theorem split_e (w : World) (p : Program) (loose : List Str) (mean : ExcName → Option Value) (mg mb : Str → Option Value)
   (text sep : Str) (tt ts : Tok) (rest : List (Addr × Obj)) (htx : text.length ≤ 100) (hsep2 : (sep == Str.ofString "") = true) :
   Does PySem.Challenge.rw_pq1312_01.row.prog w (hd.heap_39 w.params) p loose mean mg mb 53 [.str text tt, .str sep ts] rest 900 9000
     (ListPost rest (text.cps.toList.map chr1)) := by
  k_fill
  w_top off
  k_with_none
  unfold Does
  intro dp un gd cn cs a ccd clo outer A₀ base h₀ L m s Q E B F X N T hk hdp hun hret
  refine wpAny_call ?_
  k_dflt cell_enter
  k_steps
  rename News h₀ L _ _ => kN
  rename Fr h₀ L _ m => kF
  rename CarriedAll _ _ => hC
  have hS := CarriedAll.strsOf (f := fun x => x) hC
  rw [List.map_id'] at hS
  refine hret _ _ _ _ ⟨_, _, _, rfl, hS, rfl⟩ kF kN
end Mine
end
section
open PySem PySem.W PyProof.Rows PySem.Spec PySem.Calls
set_option maxRecDepth 100000
set_option maxHeartbeats 8000000
namespace Mine
def KD {α : Type} : Sem α → Prop
  | .pure _ => True
  | .raise _ => True
  | .unsupported _ => True
  | .finish _ => True
  | .rule _ k => KD (k ())
  | .at _ k => KD (k ())
  | .load _ _ k => ∀ o, KD (k o)
  | .update _ _ f k => (∀ o, (f o).dict = o.dict ∧ (f o).isFreed = o.isFreed) ∧ KD (k ())
  | .alloc _ k => ∀ a, KD (k a)
  | .loadIfAlive _ k => ∀ o, KD (k o)
  | .point _ k => KD (k ())
  | .fresh k => ∀ t, KD (k t)
  | .ask k => ∀ x, KD (k x)
  | .handled _ k => ∀ x, KD (k x)
  | .stack k => ∀ x, KD (k x)
  | .thread k => ∀ x, KD (k x)
  | .register _ k => KD (k ())
  | .choose .. => False
  | .os .. => False
  | .call .. => False
  | .newGen .. => False
  | .genState .. => False
  | .resume .. => False
  | .yield .. => False
  | .fork .. => False
  | .await .. => False
def DK (h h' : Heap) : Prop := ∀ a o, h.get? a = some o → ∃ o', h'.get? a = some o' ∧ o'.dict = o.dict
theorem DK.refl (h : Heap) : DK h h := fun _ o e => ⟨o, e, rfl⟩
theorem DK.trans {h₁ h₂ h₃ : Heap} (x : DK h₁ h₂) (y : DK h₂ h₃) : DK h₁ h₃ := fun a o e =>
  let ⟨o₂, e₂, d₂⟩ := x a o e
  let ⟨o₃, e₃, d₃⟩ := y a o₂ e₂
  ⟨o₃, e₃, d₃.trans d₂⟩
theorem DK.update {h : Heap} {a : Addr} {f : Obj → Obj} (hf : ∀ o, (f o).dict = o.dict ∧ (f o).isFreed = o.isFreed) : DK h (h.update a f) := fun b o e => by
  by_cases hab : a = b
  · subst hab
    refine ⟨f o, Heap.get?_update_self f e ?_, (hf o).1⟩
    rw [(hf o).2]
    exact (Heap.get?_some_iff.mp e).2
  · exact ⟨o, (Heap.get?_update_other h f hab).trans e, rfl⟩
theorem KD.wp {α : Type} {M : Model} {Γ : PySem.Ctx} {Q : α → Pos → Shared → Prop} {E : Value → Pos → Shared → Prop} (t : Sem α) : ∀ (_ : KD t) (p : Pos) (s : Shared) (h₀ : Heap), DK h₀ s.heap →
    PySem.Sem.wp M Γ t Q E p s → PySem.Sem.wp M Γ t (fun a p' s' => Q a p' s' ∧ DK h₀ s'.heap) E p s := by
  induction t with
  | pure a => intro _ p s h₀ hd h; rw [Sem.wp] at h ⊢; exact ⟨h, hd⟩
  | raise e => intro _ p s h₀ hd h; rw [Sem.wp] at h ⊢; exact h
  | unsupported e => intro _ p s h₀ hd h; rw [Sem.wp] at h; exact h.elim
  | finish e => intro _ p s h₀ hd h; rw [Sem.wp] at h; exact h.elim
  | rule t k ih => intro kd p s h₀ hd h; rw [Sem.wp] at h ⊢; exact ih _ kd p s h₀ hd h
  | «at» t k ih => intro kd p s h₀ hd h; rw [Sem.wp] at h ⊢; exact ih _ kd _ s h₀ hd h
  | load a part k ih => intro kd p s h₀ hd h; rw [Sem.wp] at h ⊢; obtain ⟨o, e, r⟩ := h; exact ⟨o, e, ih _ (kd o) p s h₀ hd r⟩
  | update a part f k ih => intro kd p s h₀ hd h; rw [Sem.wp] at h ⊢; exact ⟨h.1, ih _ kd.2 p _ h₀ (hd.trans (DK.update kd.1)) h.2⟩
  | alloc o k ih => intro kd p s h₀ hd h; rw [Sem.wp] at h ⊢; exact ih _ (kd _) p _ h₀ (hd.trans fun a o e => ⟨o, Heap.get?_push_of_some _ e, rfl⟩) h
  | loadIfAlive a k ih => intro kd p s h₀ hd h; rw [Sem.wp] at h ⊢; exact ih _ (kd _) p s h₀ hd h
  | point l k ih => intro kd p s h₀ hd h; rw [Sem.wp] at h ⊢; exact ih _ kd p s h₀ hd h
  | register a k ih => intro kd p s h₀ hd h; rw [Sem.wp] at h; exact h.elim
  | fresh k ih => intro kd p s h₀ hd h; rw [Sem.wp] at h ⊢; exact ih _ (kd _) p _ h₀ hd h
  | ask k ih => intro kd p s h₀ hd h; rw [Sem.wp] at h ⊢; exact ih _ (kd _) p s h₀ hd h
  | handled o k ih => intro kd p s h₀ hd h; rw [Sem.wp] at h ⊢; exact ih _ (kd _) p s h₀ hd h
  | stack k ih => intro kd p s h₀ hd h; rw [Sem.wp] at h ⊢; exact ih _ (kd _) p s h₀ hd h
  | thread k ih => intro kd p s h₀ hd h; rw [Sem.wp] at h ⊢; exact ih _ (kd _) p s h₀ hd h
  | choose => intro kd; exact kd.elim
  | os => intro kd; exact kd.elim
  | call => intro kd; exact kd.elim
  | newGen => intro kd; exact kd.elim
  | genState => intro kd; exact kd.elim
  | resume => intro kd; exact kd.elim
  | «yield» => intro kd; exact kd.elim
  | fork => intro kd; exact kd.elim
  | await => intro kd; exact kd.elim
theorem KD.any {α : Type} {M : Model} {A : Around} {t : Sem α} {Q : α → Shared → Prop} {E : Value → Shared → Prop} {s : Shared} (kd : KD t) (h : wpAny M A t Q E s) :
    wpAny M A t (fun a s' => Q a s' ∧ DK s.heap s'.heap) E s := fun Γ p hΓ => KD.wp t kd p s s.heap (DK.refl _) (h Γ p hΓ)
theorem KD.bind {α β : Type} {m : Sem α} {f : α → Sem β} : KD m → (∀ a, KD (f a)) → KD (m >>= f) := by
  show KD m → (∀ a, KD (f a)) → KD (m.bind f)
  intro hm hf
  induction m with
  | pure a => exact hf a
  | raise e => trivial
  | unsupported e => trivial
  | finish e => trivial
  | rule t k ih => exact ih _ hm
  | «at» t k ih => exact ih _ hm
  | load a part k ih => exact fun o => ih _ (hm o)
  | update a part g k ih => exact ⟨hm.1, ih _ hm.2⟩
  | alloc o k ih => exact fun o => ih _ (hm o)
  | loadIfAlive a k ih => exact fun o => ih _ (hm o)
  | point l k ih => exact ih _ hm
  | register a k ih => exact ih _ hm
  | fresh k ih => exact fun o => ih _ (hm o)
  | ask k ih => exact fun o => ih _ (hm o)
  | handled o k ih => exact fun o => ih _ (hm o)
  | stack k ih => exact fun o => ih _ (hm o)
  | thread k ih => exact fun o => ih _ (hm o)
  | choose => exact hm.elim
  | os => exact hm.elim
  | call => exact hm.elim
  | newGen => exact hm.elim
  | genState => exact hm.elim
  | resume => exact hm.elim
  | «yield» => exact hm.elim
  | fork => exact hm.elim
  | await => exact hm.elim
theorem KD.pure {α : Type} (a : α) : KD (Pure.pure a : Sem α) := trivial
theorem KD.unsup {α : Type} (a : String) : KD (unsupported a : Sem α) := trivial
theorem KD.load (a : Addr) : KD (PySem.load a) := fun _ => trivial
theorem KD.stack : KD PySem.stack := fun _ => trivial
theorem KD.alloc (o : Obj) : KD (PySem.alloc o) := fun _ => trivial
theorem KD.upd {a : Addr} {f : Obj → Obj} (hf : ∀ o, (f o).dict = o.dict ∧ (f o).isFreed = o.isFreed) : KD (PySem.update a f) := ⟨hf, trivial⟩
theorem KD.fieldsOf (v : Value) : KD (PySem.fieldsOf v) := by
  unfold PySem.fieldsOf
  split
  · refine KD.bind (KD.load _) fun o => ?_
    split
    · exact trivial
    · exact trivial
  · exact trivial
theorem KD.field (v : Value) (i : Nat) : KD (PySem.field v i) := by
  unfold PySem.field
  refine KD.bind (KD.fieldsOf v) fun o => ?_
  split <;> exact trivial
theorem KD.setField (v : Value) (i : Nat) (x : Value) : KD (PySem.setField v i x) := by
  unfold PySem.setField
  split
  · unfold updateField
    refine KD.bind (KD.load _) fun o => ?_
    split
    · split
      · refine KD.upd fun o => ?_
        obtain ⟨c, d, dt, sl⟩ := o
        cases dt <;> exact ⟨rfl, rfl⟩
      · exact trivial
    · exact trivial
  · exact trivial
theorem KD.setFlight (e : Value) (f : Option Addr) : KD (PySem.setFlight e f) := by
  unfold PySem.setFlight
  refine KD.bind (KD.field _ _) fun o => ?_
  split
  · exact KD.setField _ _ _
  · exact trivial
theorem KD.behind (env : Env) (outer : List Env) : KD (behindIsImport env outer) := by
  unfold behindIsImport
  split
  · exact trivial
  · split
    · exact trivial
    · exact KD.bind (KD.field _ _) fun o => trivial
theorem KD.kept (env : Env) (b : Bool) (outer : List Env) : KD (keptBack env b outer) := by
  unfold keptBack
  split
  · split
    · exact trivial
    · refine KD.bind ?_ fun o => ?_
      · unfold underTheClaimsCaller
        exact KD.bind KD.stack fun o => trivial
      · split <;> exact trivial
  · exact trivial
theorem KD.ready : ∀ l : List Env, KD (readyFrames l)
  | [] => trivial
  | env :: outer => by
    unfold readyFrames
    split
    · refine KD.bind (KD.load _) fun o => ?_
      split
      · exact trivial
      · refine KD.bind (KD.behind _ _) fun b => KD.bind (KD.kept _ _ _) fun v => KD.bind (KD.upd fun o => ?_) fun _ => KD.ready outer
        obtain ⟨c, d, dt, sl⟩ := o
        exact ⟨rfl, by cases dt <;> rfl⟩
    · exact trivial
theorem KD.frameOf (env : Env) : KD (PySem.frameOf env) := by
  unfold PySem.frameOf frameEnvs
  refine KD.bind (KD.bind KD.stack fun o => trivial) fun l => KD.bind ?_ fun r => ?_
  · unfold frameObject
    split
    · exact trivial
    · exact KD.bind (KD.ready _) fun o => trivial
  · split <;> exact trivial
theorem KD.place (f : Addr) (b : Bool) : KD (entryPlaceOf f b) := by
  unfold entryPlaceOf
  refine KD.bind KD.stack fun o => ?_
  split <;> exact trivial
theorem KD.entry (a b c d e : Value) (l : List Value) : KD (EntryCells.newEntry a b c d e l) := by
  unfold EntryCells.newEntry newFields newObj
  have hA : ∀ dt : Data, KD (newObjAsIs (.type "traceback") dt) := fun dt => by
    unfold newObjAsIs
    refine KD.bind (KD.alloc _) fun a => ?_
    exact trivial
  dsimp only
  split
  · split
    · exact trivial
    · exact hA _
  · split
    · exact trivial
    · exact hA _
theorem KD.noteFrame (e : Value) (env : Env) : KD (PySem.noteFrame e env) := by
  unfold PySem.noteFrame
  split
  · refine KD.bind (KD.field _ _) fun v => ?_
    split
    · refine KD.bind (KD.field _ _) fun v => ?_
      split
      · exact trivial
      · refine KD.bind (KD.setField _ _ _) fun _ => KD.bind (KD.frameOf _) fun _ => KD.bind (KD.place _ _) fun _ => KD.bind (KD.entry _ _ _ _ _ _) fun _ => KD.setField _ _ _
    · refine KD.bind (KD.frameOf _) fun _ => KD.bind (KD.place _ _) fun _ => KD.bind (KD.entry _ _ _ _ _ _) fun _ => KD.setField _ _ _
  · exact trivial
theorem KD.leaving (env : Env) (e : Value) : KD (PySem.leaving env e) := by
  unfold PySem.leaving
  exact KD.bind (KD.noteFrame _ _) fun _ => KD.setFlight _ _
end Mine
end
section
open PySem PySem.W PyProof.Rows PySem.Spec PySem.Calls PySem.Builtin PySem.Builtin.ObjectAttr
set_option maxRecDepth 100000
set_option maxHeartbeats 8000000
namespace Mine
structure Ref2 (h : Heap) (C D : Addr) (mN mD : Str → Option Value) : Prop where
  c : ∃ nm q N bs sn sub ab col dd k0 k1 k2 k3 k5, h.get? C = some (excClassObj nm q C N bs [.ref D, .type "Exception", .type "BaseException", .type "object"] true sn sub ab col dd k0 k1 k2 k3 k5 "Exception.__new__") ∧ h.Ns N mN
  d : ∃ c0 dd cd sl, h.get? D = some { cls := c0, dict := dd, data := .cls cd, slots := sl } ∧ h.Ns cd.ns mD
theorem Ref2.keeps {h h' : Heap} {C D : Addr} {mN mD : Str → Option Value} (x : Ref2 h C D mN mD) (k : ∀ b o, h.get? b = some o → h'.get? b = some o) : Ref2 h' C D mN mD := by
  obtain ⟨⟨nm, q, N, bs, sn, sub, ab, col, dd, k0, k1, k2, k3, k5, hC, hn⟩, ⟨c0, dd', cd, sl, hD, hd⟩⟩ := x
  exact ⟨⟨nm, q, N, bs, sn, sub, ab, col, dd, k0, k1, k2, k3, k5, k _ _ hC, hn.keeps k⟩, ⟨c0, dd', cd, sl, k _ _ hD, hd.keeps k⟩⟩
section
variable {M : Model} {A : Around} {E : Value → Shared → Prop} {h : Heap} {g : Array GenState} {d : Drawn} {t : Nat} {os : OsState} {C D : Addr} {mN mD : Str → Option Value}
theorem look_none {name : Str} {y : Option Value} {Q : Option Value → Shared → Prop} (x : Ref2 h C D mN mD) (hn : mN name = none) (hd : mD name = none) (hB : typeLookup (.type "Exception") name = pure y)
    (hq : Q y ⟨h, g, d, t, os⟩) : wpAny M A (typeLookup (.ref C) name) Q E ⟨h, g, d, t, os⟩ := by
  obtain ⟨⟨nm, q, N, bs, sn, sub, ab, col, dd, k0, k1, k2, k3, k5, hC, hN⟩, ⟨c0, dd', cd, sl, hD, hDn⟩⟩ := x
  have hrest : lookupAlong [.type "Exception", .type "BaseException", .type "object"] name = pure y := by
    rw [typeLookup_eq, PySem.F.store_Exception.mro] at hB; exact hB
  rw [typeLookup_eq]
  refine wpAny_bind (wpAny_mroOf_exc hC ?_)
  rw [lookupAlong_cons]
  refine wpAny_bind (wpAny_classOwn_exc hC hN ?_)
  rw [hn]
  dsimp only
  rw [lookupAlong_cons]
  refine wpAny_bind (wpAny_classOwn_cls hD hDn ?_)
  rw [hd]
  dsimp only
  rw [hrest]
  exact wpAny_pure hq
theorem look_own {name : Str} {v : Value} {Q : Option Value → Shared → Prop} (x : Ref2 h C D mN mD) (hn : mN name = some v) (hq : Q (some v) ⟨h, g, d, t, os⟩) :
    wpAny M A (typeLookup (.ref C) name) Q E ⟨h, g, d, t, os⟩ := by
  obtain ⟨⟨nm, q, N, bs, sn, sub, ab, col, dd, k0, k1, k2, k3, k5, hC, hN⟩, _⟩ := x
  rw [typeLookup_eq]
  refine wpAny_bind (wpAny_mroOf_exc hC ?_)
  rw [lookupAlong_cons]
  refine wpAny_bind (wpAny_classOwn_exc hC hN ?_)
  rw [hn]
  exact wpAny_pure hq
end
section
variable {prog : Program} {w : World} {A : Around} {E : Value → Shared → Prop} {h : Heap} {g : Array GenState} {d : Drawn} {t : Nat} {os : OsState} {C D : Addr} {mN mD : Str → Option Value}
theorem msg_none : typeLookup (.type "Exception") "message" = pure none := by rw [typeLookup_type, builtinLookup_eq_fast]; kernel_rfl
structure Stored (h h' : Heap) (x : Addr) (o : Obj) (name : Str) (v : Value) : Prop where
  at_ : ∃ dx oD, dx ≠ x ∧ h.get? dx = none ∧ h'.get? x = some { o with dict := some dx } ∧ h'.get? dx = some oD ∧ (∀ h₁ : Heap, h₁.get? dx = some oD → h₁.Ns dx (fun y => if y = name then some v else none))
  keep : ∀ b ob, b ≠ x → h.get? b = some ob → h'.get? b = some ob
theorem store_fin {tk : Tok} {x : Addr} {o : Obj} {vs : Array Value} {v : Value} {Q : Fin → Shared → Prop} (R : Ref2 h C D mN mD) (hn : mN "message" = none) (hd : mD "message" = none)
    (hx : h.get? x = some o) (hc : o.cls = .ref C) (hv : o.data = .fields vs) (ho : o.dict = none)
    (hq : ∀ h' tk', Stored h h' x o "message" v → Q (.done (.ret .none)) ⟨h', g, d, tk', os⟩) :
    wpAny (model prog w) A (Builtin.«object.__setattr__» ⟨[.ref x, .str "message" tk, v], []⟩) Q E ⟨h, g, d, t, os⟩ := by
  have hpass := PySem.F.store_Exception.passes (.ref x)
  obtain ⟨nm, q, N, bs, sn, sub, ab, col, dd, k0, k1, k2, k3, k5, hC, hN⟩ := R.c
  unfold Builtin.«object.__setattr__»
  repeat (first | rw [refuse_eq] | (rw [refuseLoop_ref, refuseLoop_ref, hpass]) | (with_reducible refine wpAny_loadPart_at hx ?_; rw [hc]) | with_reducible refine wpAny_mroOf_exc hC ?_ | (with_reducible refine look_none R hn hd msg_none ?_) | wp_step)
  rw [ho]
  dsimp only
  rw [if_neg (by simp [typeHasDict]), hv]
  dsimp only
  have hx₁ : (h.push { cls := .type "dict", data := .dict #[] }).get? x = some o := Heap.get?_push_of_some _ hx
  have hxs : x ≠ h.objs.size := Nat.ne_of_lt (Heap.lt_size hx)
  refine wpAny_bind (wpAny_alloc' ?_)
  refine wpAny_bind (wpAny_update' hx₁ ?_)
  refine wpAny_pure ?_
  have hgd : ((h.push { cls := .type "dict", data := .dict #[] }).update x fun o => { cls := o.cls, dict := some h.objs.size, data := o.data, slots := o.slots }).get? h.objs.size
      = some { cls := .type "dict", data := .dict #[] } :=
    (Heap.get?_update_ne _ _ _ _ hxs.symm).trans (Heap.get?_push_at rfl rfl)
  have hnd : ((h.push { cls := .type "dict", data := .dict #[] }).update x fun o => { cls := o.cls, dict := some h.objs.size, data := o.data, slots := o.slots }).Ns h.objs.size (fun _ => none) :=
    ⟨_, #[], _, hgd, rfl, fun e he => absurd he (by simp), fun _ => rfl⟩
  show wpAny _ _ (storeInDict h.objs.size (.str "message" tk) "message" v) _ _ _
  unfold storeInDict newKeyGuard
  refine wpAny_bind (wpAny_pure (wpAny_bind (wpAny_nsSet1 (Heap.Ns1.of_empty hnd) fun h' hn' hs => ?_)))
  obtain ⟨oD, esD, epD, hoD, hdD, hcD⟩ := hn'.count (Within.cons "message" v Within.nil)
  refine wpAny_bind (wpAny_lookBehind hoD (by rw [hdD]; exact pastItsLine_dict (Nat.le_trans hcD (by rw [List.length_cons, List.length_nil, sizeLine_eq]; omega))) ?_)
  wp_walk
  refine hq h' _ ⟨⟨h.objs.size, oD, hxs.symm, Heap.get?_none_of_le (Nat.le_refl _), ?_, hoD, ?_⟩, ?_⟩
  · refine (hs.2 x hxs).trans ((Heap.get?_update_self _ hx₁ ?_).trans ?_)
    · obtain ⟨oc, od, odt, osl⟩ := o
      cases hv
      rfl
    · rfl
  · intro h₁ e₁
    obtain ⟨o', es, ep, e1, e2⟩ := hn'.ns
    rw [hoD] at e1
    cases e1
    exact ⟨_, es, ep, e₁, e2⟩
  · intro b ob hbx hb
    exact (hs.2 b (Nat.ne_of_lt (Heap.lt_size hb))).trans ((Heap.get?_update_ne _ _ _ _ hbx).trans (Heap.get?_push_of_some _ hb))
theorem check_store {M : Model} {x : Addr} {o : Obj} {nameV v : Value} {Q : Unit → Shared → Prop} (R : Ref2 h C D mN mD) (hx : h.get? x = some o) (hc : o.cls = .ref C) (hq : Q () ⟨h, g, d, t, os⟩) :
    wpAny M A (checkBuiltinCall "object.__setattr__" ⟨[.ref x, nameV, v], []⟩) Q E ⟨h, g, d, t, os⟩ := by
  obtain ⟨nm, q, N, bs, sn, sub, ab, col, dd, k0, k1, k2, k3, k5, hC, hN⟩ := R.c
  have SF := PySem.F.store_Exception
  have hcB : (Value.ref C :: [Value.ref D, .type "Exception", .type "BaseException", .type "object"]).contains (.type "object") = true := by simp
  have ha := SF.args (.ref x) nameV v
  simp only [checkBuiltinCall, SF.kind, SF.split]
  refine wpAny_bind ?_
  unfold isInstance
  repeat (first | (with_reducible refine wpAny_loadPart_at hx ?_; rw [hc]) | (with_reducible refine wpAny_isSubtype_exc hC ?_; rw [hcB]) | wp_step)
  exact hq
theorem store_run {tk : Tok} {x : Addr} {o : Obj} {vs : Array Value} {v : Value} {R' : Result → Shared → Prop} (R : Ref2 h C D mN mD) (hn : mN "message" = none) (hd : mD "message" = none)
    (hx : h.get? x = some o) (hc : o.cls = .ref C) (hv : o.data = .fields vs) (ho : o.dict = none)
    (hq : ∀ h' tk', Stored h h' x o "message" v → R' (.ok (.ret .none)) ⟨h', g, d, tk', os⟩) :
    codeAny (model prog w) A (.call (.builtin "object.__setattr__") ⟨[.ref x, .str "message" tk, v], []⟩) R' ⟨h, g, d, t, os⟩ :=
  codeAny_call_builtin PySem.F.store_Exception.slot.plain PySem.F.store_Exception.entry (check_store R hx hc (store_fin R hn hd hx hc hv ho fun h' tk' S => hq h' tk' S))
theorem store_msg {x : Addr} {o : Obj} {vs : Array Value} {v : Value} {Q : Unit → Shared → Prop} (R : Ref2 h C D mN mD) (hn : mN "message" = none) (hd : mD "message" = none) (hns : mN "__setattr__" = none) (hds : mD "__setattr__" = none)
    (hx : h.get? x = some o) (hc : o.cls = .ref C) (hv : o.data = .fields vs) (ho : o.dict = none)
    (hq : ∀ h' tk', Stored h h' x o "message" v → Q () ⟨h', g, d, tk', os⟩) :
    wpAny (model prog w) A (setAttr (.ref x) "message" v) Q E ⟨h, g, d, t, os⟩ := by
  have SF := PySem.F.store_Exception
  have f3 := SF.slot.bind (.ref x)
  unfold setAttr callSpecial? specialOf
  repeat (any_goals (first | assumption | (with_reducible refine wpAny_loadPart_at hx ?_; rw [hc]) | (with_reducible refine look_none R hns hds SF.slot.lookup ?_) | wp_step))
  refine store_run R hn hd hx hc hv ho fun h' tk' S => ?_
  repeat (any_goals (first | assumption | wp_step))
  exact hq h' tk' S
theorem load_fin {tk tv : Tok} {x dx : Addr} {o : Obj} {vs : Array Value} {v : Str} {mA : Str → Option Value} {Q : Fin → Shared → Prop} (R : Ref2 h C D mN mD) (hn : mN "message" = none) (hd : mD "message" = none)
    (hx : h.get? x = some o) (hc : o.cls = .ref C) (hv : o.data = .fields vs) (ho : o.dict = some dx) (hm : h.Ns dx mA) (hA : mA "message" = some (.str v tv))
    (hq : Q (.done (.ret (.str v tv))) ⟨h, g, d, t, os⟩) :
    wpAny (model prog w) A (Builtin.«object.__getattribute__» ⟨[.ref x, .str "message" tk], []⟩) Q E ⟨h, g, d, t, os⟩ := by
  obtain ⟨nm, q, N, bs, sn, sub, ab, col, dd, k0, k1, k2, k3, k5, hC, hN⟩ := R.c
  unfold Builtin.«object.__getattribute__»
  repeat (first | (with_reducible refine wpAny_loadPart_at hx ?_; rw [hc]) | with_reducible refine wpAny_mroOf_exc hC ?_ | (with_reducible refine look_none R hn hd msg_none ?_) | wp_step)
  rw [hv]
  dsimp only
  unfold instanceDict
  repeat (first | (with_reducible refine wpAny_loadPart_at hx ?_; rw [hc]) | with_reducible refine wpAny_loadPart_at hC ?_ | wp_step)
  rw [ho]
  repeat (first | (with_reducible refine wpAny_nsGet hm ?_; rw [hA]) | wp_step)
  exact hq
theorem check_load {M : Model} {x : Addr} {o : Obj} {nameV : Value} {Q : Unit → Shared → Prop} (R : Ref2 h C D mN mD) (hx : h.get? x = some o) (hc : o.cls = .ref C) (hq : Q () ⟨h, g, d, t, os⟩) :
    wpAny M A (checkBuiltinCall "BaseException.__getattribute__" ⟨[.ref x, nameV], []⟩) Q E ⟨h, g, d, t, os⟩ := by
  obtain ⟨nm, q, N, bs, sn, sub, ab, col, dd, k0, k1, k2, k3, k5, hC, hN⟩ := R.c
  have hk : builtinKind "BaseException.__getattribute__" = some .slot := by decide +kernel
  have hsplit : splitId "BaseException.__getattribute__" = some ("BaseException", "__getattribute__") := by decide +kernel
  have hcB : (Value.ref C :: [Value.ref D, .type "Exception", .type "BaseException", .type "object"]).contains (.type "BaseException") = true := by simp
  have ha := PySem.F.args_bexc_ga (.ref x) nameV
  simp only [checkBuiltinCall, hk, hsplit]
  refine wpAny_bind ?_
  unfold isInstance
  repeat (first | (with_reducible refine wpAny_loadPart_at hx ?_; rw [hc]) | (with_reducible refine wpAny_isSubtype_exc hC ?_; rw [hcB]) | wp_step)
  exact hq
theorem load_msg {tv : Tok} {x dx : Addr} {o : Obj} {vs : Array Value} {v : Str} {mA : Str → Option Value} {expr : Bool} {Q : Value → Shared → Prop} (R : Ref2 h C D mN mD) (hn : mN "message" = none) (hd : mD "message" = none)
    (hn1 : mN "__getattribute__" = none) (hd1 : mD "__getattribute__" = none) (hn2 : mN "__getattr__" = none) (hd2 : mD "__getattr__" = none)
    (hx : h.get? x = some o) (hc : o.cls = .ref C) (hv : o.data = .fields vs) (ho : o.dict = some dx) (hm : h.Ns dx mA) (hA : mA "message" = some (.str v tv))
    (hq : ∀ tk, Q (.str v tv) ⟨h, g, d, tk, os⟩) :
    wpAny (model prog w) A (getAttr (.ref x) "message" expr) Q E ⟨h, g, d, t, os⟩ := by
  have FB := PySem.F.attrBase_Exception
  have f3 := FB.ga.bind (.ref x)
  have hx0 : (expr && onTheHeap (Value.builtin "BaseException.__getattribute__")) = false := by cases expr <;> rfl
  have hx2 : (Value.builtin "BaseException.__getattribute__" == Value.builtin "object.__getattribute__") = false := by decide +kernel
  have hx1 : (onTheHeap (Value.ref C) && Value.builtin "BaseException.__getattribute__" == Value.builtin "object.__getattribute__") = false := by rw [hx2]; rfl
  unfold getAttr getAttrBy
  repeat (any_goals (first | assumption | (with_reducible refine wpAny_loadPart_at hx ?_; rw [hc]) | with_reducible refine look_none R hn1 hd1 FB.ga.lookup ?_ | with_reducible refine look_none R hn2 hd2 FB.noGetattr ?_ | wp_step))
  refine codeAny_call_builtin FB.ga.plain PySem.F.entry_bexc_ga (check_load R hx hc (load_fin R hn hd hx hc hv ho hm hA ?_))
  repeat (any_goals (first | assumption | wp_step))
  exact hq _
end
end Mine
end
section
open PySem PySem.W PyProof.Rows PySem.Spec PySem.Calls PySem.Builtin PySem.Builtin.ObjectAttr
set_option maxRecDepth 100000
set_option maxHeartbeats 8000000
namespace Mine
section
variable {prog : Program} {w : World} {A : Around} {E : Value → Shared → Prop} {h : Heap} {g : Array GenState} {d : Drawn} {t : Nat} {os : OsState} {C D : Addr} {mN mD : Str → Option Value}
theorem make_own {rest : List Value} {fI : Addr} {oI : Obj} {Q : PySem.Fin → Shared → Prop} (R : Ref2 h C D mN mD) (hdi : mD "__init__" = none) (hi : mN "__init__" = some (.ref fI))
    (hfI : h.get? fI = some oI) (hfc : oI.cls = .type "function") (hrest : rest.length ≤ sizeLine)
    (hq : ∀ h' e, Heap.MadeExcOf h h' e (.ref C) rest →
      wpAny (model prog w) A (call (.ref fI) (.ref e :: rest)) (fun r s' => r = .none ∧ Q (.done (.ret (.ref e))) s') E ⟨h', g, d, t, os⟩) :
    wpAny (model prog w) A (Builtin.«type.__call__» ⟨.ref C :: rest, []⟩) Q E ⟨h, g, d, t, os⟩ := by
  have F := PySem.F.excBase_Exception
  obtain ⟨⟨nm, q, N, bs, sn, sub, ab, col, dd, k0, k1, k2, k3, k5, hC, hN⟩, ⟨c0, dd', cd, sl, hD, hDn⟩⟩ := id R
  have T : OwnTail h [.type "Exception", .type "BaseException", .type "object"] [.ref D, .type "Exception", .type "BaseException", .type "object"] := .own hD hDn hdi .base
  repeat (first | with_reducible refine wpAny_loadPart_at hC ?_ | with_reducible refine wpAny_madeBy_exc hC ?_ | wp_step)
  refine codeAny_call_builtin_code (Code.quiet_builtin _ F.quiet) (wpAny_check_new_subT F T hC ?_)
  refine codeAny_exc_new_subT F T hC ?_ hrest
  show wpAny _ _ _ _ _ _
  generalize hh : (h.push { cls := .type "tuple", data := .seq rest.toArray }).push { cls := .ref C, data := .fields #[.ref h.objs.size, .none, .none, .none, .bool false, .none] } = hp
  have hk : ∀ b o, h.get? b = some o → hp.get? b = some o := fun b o e => by rw [← hh]; exact Heap.get?_push_of_some _ (Heap.get?_push_of_some _ e)
  have hget : hp.get? (h.objs.size + 1) = some { cls := .ref C, data := .fields #[.ref h.objs.size, .none, .none, .none, .bool false, .none] } := by rw [← hh]; heap_get
  have ht : hp.get? h.objs.size = some { cls := .type "tuple", data := .seq rest.toArray } := by rw [← hh]; exact Heap.get?_push_of_some _ (Heap.get?_push_at rfl rfl)
  have hcC : (Value.ref C :: [Value.ref D, .type "Exception", .type "BaseException", .type "object"]).contains (.ref C) = true := by simp
  have hfI₁ := hk _ _ hfI
  unfold isInstance
  repeat (first | with_reducible refine wpAny_loadPart_at hget ?_ | (with_reducible refine wpAny_isSubtype_exc (hk _ _ hC) ?_; rw [hcC]) | wp_step)
  show wpAny _ _ (typeLookup (.ref C) _) _ _ _
  refine look_own (R.keeps hk) hi ?_
  refine wpAny_holding (wpAny_bind ?_)
  unfold bindSpecial
  refine wpAny_bind (wpAny_typeOf (T := "function") ⟨_, hfI₁, hfc⟩ ?_)
  rw [if_pos (by decide)]
  refine wpAny_pure (wpAny_bind (wpAny_mono (hq hp (h.objs.size + 1) ⟨hk, Heap.get?_none_of_le (Nat.le_succ _), h.objs.size, hget, Heap.get?_none_of_le (Nat.le_refl _), ht⟩) (fun r s' hr => ?_) fun _ _ x => x))
  obtain ⟨rfl, hQ⟩ := hr
  wp_walk
  exact hQ
theorem call_own {rest : List Value} {fI : Addr} {oI : Obj} {Q : Value → Shared → Prop} (R : Ref2 h C D mN mD) (hdi : mD "__init__" = none) (hi : mN "__init__" = some (.ref fI))
    (hfI : h.get? fI = some oI) (hfc : oI.cls = .type "function") (hrest : rest.length ≤ sizeLine)
    (hq : ∀ h' e, Heap.MadeExcOf h h' e (.ref C) rest →
      wpAny (model prog w) (A.under (.builtin "type.__call__" ⟨.ref C :: rest, []⟩)) (call (.ref fI) (.ref e :: rest)) (fun r s' => r = .none ∧ Q (.ref e) s') E ⟨h', g, d, t, os⟩) :
    wpAny (model prog w) A (call (.ref C) rest) Q E ⟨h, g, d, t, os⟩ := by
  have f1 := tc_lookup
  have f2 := tc_bind (.ref C)
  obtain ⟨nm, q, N, bs, sn, sub, ab, col, dd, k0, k1, k2, k3, k5, hC, hN⟩ := R.c
  have hT : (⟨h, g, d, t, os⟩ : Shared).TypeIs (.ref C) "type" := ⟨_, hC, rfl⟩
  refine wpAny_call (codeAny_of_tree ?_)
  show wpAny _ _ (callAny (.ref C) _) _ _ _
  repeat (any_goals (first | assumption | with_reducible refine wpAny_loadPart_at hC ?_ | wp_step))
  refine ⟨rfl, ?_⟩
  exact codeAny_call_builtin_at (Code.quiet_builtin _ (by decide +kernel)) entry_typeCall (wpAny_check_type_call_sub hC (make_own R hdi hi hfI hfc hrest fun h' e hm => hq h' e hm))
def RaisableC (C : Addr) (E : Value → Shared → Prop) (v : Value) (s₁ : Shared) : Prop :=
  ∃ a ob vs D mN mD, v = .ref a ∧ Ref2 s₁.heap C D mN mD ∧ s₁.heap.get? a = some ob ∧ ob.cls = .ref C ∧ ob.data = .fields vs ∧ vs[1]? = some .none ∧ E (.ref a) s₁
theorem Raise_C {env : Env} {s : Shared} {e : Expr} {pos : Pos} {Q : Flow → Shared → Prop} (hh : A.handled = none)
    (h : wpAny (model prog w) A (eval e env) (RaisableC C E) E s) : wpAny (model prog w) A (exec (.Raise (some e) none pos) env) Q E s := by
  show wpAny (model prog w) A (do standAt pos; raiseStmt env (some (do let v ← eval e env; standAt pos; pure v)) none) Q E s
  refine wpAny_bind (wpAny_standAt ?_)
  unfold raiseStmt
  dsimp only
  refine wpAny_bind (wpAny_bind (wpAny_mono h (fun v s₁ h₁ => wpAny_bind (wpAny_standAt (wpAny_pure ?_))) fun _ _ x => x))
  obtain ⟨a, ob, vs, D, mN, mD, rfl, R, ha, hcls, hd, h1, hE⟩ := h₁
  obtain ⟨nm, q, N, bs, sn, sub, ab, col, dd, k0, k1, k2, k3, k5, hC, hN⟩ := R.c
  obtain ⟨hp, g, d, tk, os⟩ := s₁
  have hcB : (Value.ref C :: [Value.ref D, .type "Exception", .type "BaseException", .type "object"]).contains (.type "BaseException") = true := by simp
  have hnt : ∀ {Q' : Bool → Shared → Prop}, Q' false ⟨hp, g, d, tk, os⟩ → wpAny (model prog w) A (isType (.ref a)) Q' E ⟨hp, g, d, tk, os⟩ := by
    intro Q' hq
    simp only [isType, loadHead]
    refine wpAny_bind (wpAny_loadPart ha ?_)
    rw [hd]; exact wpAny_pure hq
  repeat (first | with_reducible refine wpAny_bind (hnt ?_) | with_reducible refine hnt ?_ | (with_reducible refine wpAny_loadPart_at ha ?_; rw [hcls]) | with_reducible refine wpAny_loadPart_at hC ?_ | (with_reducible refine wpAny_isSubtype_exc hC ?_; rw [hcB]) | wp_step)
  rw [hd]
  refine wpAny_pure ?_
  rw [h1]
  refine wpAny_pure ?_
  rw [if_neg (by decide)]
  exact wpAny_pure (wpAny_raiseNew_none hh hE)
end
end Mine
end
section
open PySem PySem.W PyProof.Rows PySem.Spec PySem.Calls
set_option maxRecDepth 100000
set_option maxHeartbeats 8000000
set_option pp.deepTerms false
set_option pp.deepTerms.threshold 8
namespace Mine
local macro_rules | `(tactic| walk_at "mine_no_such_node") => `(tactic| fail)
local macro_rules | `(tactic| walk_at "mine_no_such_node") => `(tactic| fail)
local macro_rules | `(tactic| walk_at "mine_no_such_node") => `(tactic| fail)
local macro_rules | `(tactic| walk_at "mine_no_such_node") => `(tactic| fail)
local macro_rules | `(tactic| walk_at "mine_no_such_node") => `(tactic| fail)
local macro_rules | `(tactic| walk_at "mine_no_such_node") => `(tactic| fail)
local macro_rules | `(tactic| walk_at "mine_no_such_node") => `(tactic| fail)
local macro_rules | `(tactic| walk_at "mine_no_such_node") => `(tactic| fail)
local macro_rules | `(tactic| walk_at "mine_no_such_node") => `(tactic| fail)
local macro_rules | `(tactic| walk_at "mine_no_such_node") => `(tactic| fail)
local macro_rules | `(tactic| walk_at "mine_no_such_node") => `(tactic| fail)
local macro_rules | `(tactic| walk_at "mine_no_such_node") => `(tactic| fail)
local macro_rules | `(tactic| walk_at "mine_no_such_node") => `(tactic| fail)
local macro_rules | `(tactic| walk_at "mine_no_such_node") => `(tactic| fail)
local macro_rules | `(tactic| walk_at "mine_no_such_node") => `(tactic| fail)
local macro_rules | `(tactic| walk_at "mine_no_such_node") => `(tactic| fail)
local macro_rules | `(tactic| walk_at "mine_no_such_node") => `(tactic| fail)
local macro_rules | `(tactic| walk_at "mine_no_such_node") => `(tactic| fail)
local macro_rules | `(tactic| walk_at "mine_no_such_node") => `(tactic| fail)
local macro_rules | `(tactic| walk_at "mine_no_such_node") => `(tactic| fail)
local macro_rules | `(tactic| walk_at "mine_no_such_node") => `(tactic| fail)
local macro_rules | `(tactic| walk_at "mine_no_such_node") => `(tactic| fail)
local macro_rules | `(tactic| walk_at "mine_no_such_node") => `(tactic| fail)
local macro_rules | `(tactic| walk_at "mine_no_such_node") => `(tactic| fail)
local macro_rules | `(tactic| walk_at "mine_no_such_node") => `(tactic| fail)
local macro_rules | `(tactic| walk_at "mine_no_such_node") => `(tactic| fail)
local macro_rules | `(tactic| walk_at "mine_no_such_node") => `(tactic| fail)
local macro_rules | `(tactic| walk_at "mine_no_such_node") => `(tactic| fail)
local macro_rules | `(tactic| walk_at "mine_no_such_node") => `(tactic| fail)
local macro_rules | `(tactic| walk_at "mine_no_such_node") => `(tactic| fail)
local macro_rules | `(tactic| walk_at "mine_no_such_node") => `(tactic| fail)
local macro_rules | `(tactic| walk_at "mine_no_such_node") => `(tactic| fail)
local macro_rules | `(tactic| walk_at "mine_no_such_node") => `(tactic| fail)
local macro_rules | `(tactic| walk_at "mine_no_such_node") => `(tactic| fail)
local macro_rules | `(tactic| walk_at "mine_no_such_node") => `(tactic| fail)
theorem ns_some_of {K : Frag} {h : Heap} {N : Addr} {mg : Str → Option Value} {n : Str} {v : Value} (X : K.In h) (G : h.Ns N mg) (e : nsIn K N n = some (some v)) : mg n = some v := by
  obtain ⟨o, es, ep, ho, hd, _, hf⟩ := G
  unfold nsIn at e
  split at e
  · rename_i c d es' n' sl q
    have := X _ _ q
    rw [ho] at this
    cases this
    cases hd
    split at e
    · rename_i z he
      rw [← hf]
      unfold nsFind findBy
      rw [← Array.find?_toList, he]
      exact (Option.some.inj e)
    · split at e <;> cases e
  · cases e
structure RefP (h : Heap) (mN mD : Str → Option Value) : Prop where
  r : Ref2 h 44 24 mN mD
  i : mN "__init__" = some (.ref 41)
  di : mD "__init__" = none
  n1 : mN "message" = none
  d1 : mD "message" = none
  n2 : mN "__setattr__" = none
  d2 : mD "__setattr__" = none
  n3 : mN "__getattribute__" = none
  d3 : mD "__getattribute__" = none
  n4 : mN "__getattr__" = none
  d4 : mD "__getattr__" = none
  f : ∃ o, h.get? 41 = some o ∧ o.cls = .type "function"
theorem RefP.keeps {h h' : Heap} {mN mD : Str → Option Value} (x : RefP h mN mD) (k : ∀ b o, h.get? b = some o → h'.get? b = some o) : RefP h' mN mD :=
  { x with r := x.r.keeps k, f := let ⟨o, e, c⟩ := x.f; ⟨o, k _ _ e, c⟩ }
theorem refP_in {P : PySem.Params} {h : Heap} (X : (hd.heap_39 P).In h) : ∃ mN mD, RefP h mN mD := by
  have hC := X 44 _ (by with_unfolding_all exact rfl)
  have hD := X 24 _ (by with_unfolding_all exact rfl)
  have hF := X 41 _ (by with_unfolding_all exact rfl)
  have nC : h.Ns 43 (h.nsMap 43) := .of_isNs (isNs_of_in X (by with_unfolding_all rfl))
  have nD : h.Ns 23 (h.nsMap 23) := .of_isNs (isNs_of_in X (by with_unfolding_all rfl))
  refine ⟨h.nsMap 43, h.nsMap 23, ⟨⟨_, _, _, _, _, _, _, _, _, _, _, _, _, _, hC, nC⟩, ⟨_, _, _, _, hD, nD⟩⟩, ns_some_of X nC (by with_unfolding_all rfl), ns_none_of X nD (by with_unfolding_all rfl),
    ns_none_of X nC (by with_unfolding_all rfl), ns_none_of X nD (by with_unfolding_all rfl), ns_none_of X nC (by with_unfolding_all rfl), ns_none_of X nD (by with_unfolding_all rfl), ns_none_of X nC (by with_unfolding_all rfl), ns_none_of X nD (by with_unfolding_all rfl),
    ns_none_of X nC (by with_unfolding_all rfl), ns_none_of X nD (by with_unfolding_all rfl), ⟨_, hF, rfl⟩⟩
def MsgIs (dx : Addr) (oD : Obj) (msg : Str) (tm : Tok) : Prop := ∀ h₁ : Heap, h₁.get? dx = some oD → h₁.Ns dx (fun y => if y = "message" then some (.str msg tm) else none)
section
variable {prog : Program} {w : World} {A : Around} {E : Value → Shared → Prop} {s : Shared} {h₀ : Heap} {L : Addr} {m : Str → Option Value}
theorem store_K {mN mD : Str → Option Value} {e : Nat} {msg : Str} {tm : Tok} {vs : Array Value} {rest : List (Addr × Obj)} {Q : Unit → Shared → Prop} (R : RefP s.heap mN mD) (F : Fr h₀ L s.heap m)
    (N : News h₀ L s.heap ((e, { cls := .ref 44, data := .fields vs }) :: rest)) (hr : ∀ q ∈ rest, q.1 ≠ e)
    (hq : ∀ h' tk' dx oD, dx ≠ e → MsgIs dx oD msg tm → Fr h₀ L h' m → News h₀ L h' ((dx, oD) :: (e, { cls := .ref 44, dict := some dx, data := .fields vs }) :: rest) → Q () { s with heap := h', toks := tk' }) :
    wpAny (model prog w) A (setAttr (.ref e) "message" (.str msg tm)) Q E s := by
  obtain ⟨h, g, d, t, os⟩ := s
  obtain ⟨he, heL, he0⟩ := N _ (.head _)
  refine store_msg R.r R.n1 R.d1 R.n2 R.d2 he rfl rfl rfl fun h' tk' S => ?_
  obtain ⟨dx, oD, hne, hnew, hx', hd', hM⟩ := S.at_
  have hdL : dx ≠ L := fun z => by
    obtain ⟨o, es, ep, ho, _⟩ := F.ns
    rw [z] at hnew; rw [ho] at hnew; cases hnew
  have hd0 : h₀.get? dx = none := by
    cases q : h₀.get? dx with
    | none => rfl
    | some o => have := F.keep _ _ q; rw [hnew] at this; cases this
  have hkL : ∀ b o, b ≠ e → h.get? b = some o → h'.get? b = some o := S.keep
  refine hq h' tk' dx oD hne hM ⟨?_, fun b o q => hkL b o (fun z => by rw [z] at q; rw [he0] at q; cases q) (F.keep b o q), F.above⟩ ?_
  · obtain ⟨o, es, ep, ho, r⟩ := F.ns
    exact ⟨o, es, ep, hkL _ _ (fun z => heL z.symm) ho, r⟩
  · intro q hq
    rcases List.mem_cons.mp hq with rfl | hq
    · exact ⟨hd', hdL, hd0⟩
    · rcases List.mem_cons.mp hq with rfl | hq
      · exact ⟨hx', heL, he0⟩
      · obtain ⟨q1, q2, q3⟩ := N q (.tail _ hq)
        exact ⟨hkL _ _ (hr q hq) q1, q2, q3⟩
end
local macro_rules | `(tactic| k_all) => `(tactic| assumption)
local macro_rules | `(tactic| units_room) => `(tactic| (have hcL9 := cLine_is; (simp only [units_in1, units_deeper, Around.mark_units, units_caller]); (try dsimp only [ktrTop]); omega))
local macro_rules | `(tactic| k_units) => `(tactic| (have hcL9 := cLine_is; (simp only [units_in1, units_deeper, Around.mark_units, units_caller]); (try dsimp only [ktrTop]); omega))
local macro_rules | `(tactic| ktr_room) => `(tactic| ((try simp only [depth_under_make, depth_under_kw, depth_in1, depth_deeper, depth_caller]); (try dsimp only [ktrTop]); (simp only [recursionLimit]); omega))
local macro_rules | `(tactic| k_room) => `(tactic| ((try simp only [depth_under_make, depth_under_kw, depth_in1, depth_deeper, depth_caller]); (try dsimp only [ktrTop]); (simp only [recursionLimit]); omega))
local macro_rules | `(tactic| walk_at "setAttr ref str") => `(tactic| (refine Stop.out ?_))
theorem init_c (w : World) (p : Program) (loose : List Str) (mean : ExcName → Option Value) (mg mb : Str → Option Value)
   (e : Nat) (msg : Str) (tm : Tok) (vs : Array Value) (rest : List (Addr × Obj)) (hr : ∀ q ∈ rest, q.1 ≠ e) :
   Does PySem.Challenge.rw_pq1312_01.row.prog w (hd.heap_39 w.params) p loose mean mg mb 41 [.ref e, .str msg tm] ((e, { cls := .ref 44, data := .fields vs }) :: rest) 990 9900
     (fun r news' => ∃ dx oD, r = .none ∧ dx ≠ e ∧ MsgIs dx oD msg tm ∧ news' = (dx, oD) :: (e, { cls := .ref 44, dict := some dx, data := .fields vs }) :: rest) := by
  k_fill
  w_top off
  k_with_none
  unfold Does
  intro dp un gd cn cs a ccd clo outer A₀ base h₀ L m s Q E B F X N T hk hdp hun hret
  refine wpAny_call ?_
  k_dflt cell_enter
  k_steps
  unfold Stop
  rename Fr _ _ _ _ => lF; rename News _ _ _ _ => lN; rename Frag.In _ _ => lX
  obtain ⟨mN, mD, R⟩ := refP_in lX
  refine store_K (R.keeps lF.keep) lF lN hr ?_
  intro h9 tk9 dx oD hne hM F9 N9
  clear lF lN
  try k_fold
  k_steps
  rename News h₀ L _ _ => kN
  rename Fr h₀ L _ m => kF
  refine hret _ _ _ _ ⟨dx, oD, rfl, hne, hM, rfl⟩ kF kN
end Mine
end
section
open PySem PySem.W PyProof.Rows PySem.Spec PySem.Calls
set_option maxRecDepth 100000
set_option maxHeartbeats 8000000
set_option pp.deepTerms false
set_option pp.deepTerms.threshold 8
namespace Mine
def ThrownC (base : Heap) (l : List Env) (e dx : Addr) (news : List (Addr × Obj)) (h : Heap) : Prop :=
  (∃ B a0, base.StaysIn B ∧ (∀ q ∈ news, B.get? q.1 = some q.2 ∧ base.get? q.1 = none) ∧ Heap.FlyingW B l e (.ref 44) a0 h) ∧ ∃ oe, h.get? e = some oe ∧ oe.dict = some dx
def Throws (prog : Program) (w : World) (K : Frag) (p : Program) (loose : List Str) (mean : ExcName → Option Value) (mg mb : Str → Option Value) (f : Addr) (vs : List Value) (news : List (Addr × Obj)) (db ub : Nat) (msg : Str) : Prop :=
  ∀ (dp un : Nat) (gd : Option (List Code)) (cn : Str) (cs : Scope) (a : Addr) (ccd : Value) (cl : List (Str × Addr)) (outer : List Env) (A₀ : Around) (base h₀ : Heap) (L : Addr) (m : Str → Option Value) (s : Shared) (Q E : Value → Shared → Prop),
    Below A₀ base outer h₀ → Fr h₀ L s.heap m → K.In h₀ → News h₀ L s.heap news → Top p loose mean mg mb h₀ → cs.kind = .function → dp < db → un < ub →
    (∀ e dx oD tm g h' tk', Fr h₀ L g m → g.UpToSlots h' → MsgIs dx oD msg tm → ThrownC base (envX cn cs L a ccd cl :: outer) e dx ((dx, oD) :: news) h' → E (.ref e) { s with heap := h', toks := tk' }) →
      wpAny (model prog w) (ktrTop dp un gd cn cs L a ccd cl outer) (call (.ref f) vs) Q E s
section
variable {M : Model} {A : Around} {E : Value → Shared → Prop} {s' : Shared} {base g : Heap} {outer : List Env} {L e dx : Addr} {m : Str → Option Value} {Q : Unit → Shared → Prop} {news : List (Addr × Obj)}
theorem leaveC {env : Env} {oD : Obj} {vs : Array Value} {a0 : Value} (K : Below A base outer g) (F : Fr g L s'.heap m) (hf : env.frame = some L) (hk : env.scope.kind = .function)
    (N : News g L s'.heap ((dx, oD) :: (e, { cls := .ref 44, dict := some dx, data := .fields vs }) :: news)) (h0 : vs[0]? = some a0) (h1 : vs[1]? = some .none) (hne : ∀ q ∈ (dx, oD) :: news, q.1 ≠ e)
    (hQ : ∀ h', ThrownC base outer e dx ((dx, oD) :: news) h' → g.UpToSlots h' → Q () { s' with heap := h' }) :
    wpAny M (A.deeper env) (leaving env (.ref e)) Q E s' := by
  have K' := pushX K F hf hk
  obtain ⟨he, heL, he0⟩ := N _ (.tail _ (.head _))
  have ebase : base.get? e = none := fresh_of_stays K.stays he0
  have hin : ∀ env' ∈ (env :: outer), ∀ b, env'.frame = some b → b ∈ (env :: outer).filterMap (·.frame) := fun env' he b hb => List.mem_filterMap.mpr ⟨env', he, hb⟩
  have frn : ∀ q ∈ (dx, oD) :: (e, { cls := .ref 44, dict := some dx, data := .fields vs }) :: news, q.1 ∉ (env :: outer).filterMap (·.frame) := fun q hq hm => by
    obtain ⟨env', he', hf'⟩ := List.mem_filterMap.mp hm
    rcases List.mem_cons.mp he' with rfl | he'
    · rw [hf] at hf'
      exact (N q hq).2.1 (Option.some.inj hf').symm
    · obtain ⟨o, ho, _⟩ := (K.frames.mem (List.mem_filterMap.mpr ⟨env', he', hf'⟩)).2
      rw [(N q hq).2.2] at ho; cases ho
  generalize hB : hideAll s'.heap (e :: (env :: outer).filterMap (·.frame)) = B
  have stB : B.StaysIn s'.heap := fun b o q => by rw [← hB] at q; exact of_hideAll _ q
  have bsB : base.StaysIn B := fun b o q => by
    rw [← hB]
    refine hideAll_get _ (K'.stays b o q) fun hm => ?_
    rcases List.mem_cons.mp hm with rfl | hm
    · rw [ebase] at q; cases q
    · rw [(K'.frames.mem hm).1] at q; cases q
  have eB : B.get? e = none := by rw [← hB]; exact hideAll_none _ (.head _)
  have frB : s'.heap.FunFrames B (env :: outer) := by
    rw [← hB]
    exact funFrames_hide K'.frames fun env' he b hb => .tail _ (hin env' he b hb)
  have nB : ∀ q ∈ (dx, oD) :: news, B.get? q.1 = some q.2 ∧ base.get? q.1 = none := fun q hq => by
    have hq2 : q ∈ (dx, oD) :: (e, ({ cls := .ref 44, dict := some dx, data := .fields vs } : Obj)) :: news := by
      rcases List.mem_cons.mp hq with rfl | hq
      · exact .head _
      · exact .tail _ (.tail _ hq)
    refine ⟨?_, fresh_of_stays K.stays (N q hq2).2.2⟩
    rw [← hB]
    refine hideAll_get _ (N q hq2).1 fun hm => ?_
    rcases List.mem_cons.mp hm with hm | hm
    · exact hne q hq hm
    · exact frn q hq2 hm
  have step := wpAny_leaving_firstW (M := M) (A := A.deeper env) (E := E) (s := s') (base := B) (env := env) (outer := outer) (L := L) (e := e) (a0 := a0)
    (Q := fun _ s'' => ∃ h', s'' = { s' with heap := h' } ∧ Heap.LeftW B (env :: outer) e (.ref 44) a0 s'.heap h') K'.stack frB hf he stB eB rfl h1 h0 fun h' hL => ⟨h', rfl, hL⟩
  refine wpAny_mono (KD.any (KD.leaving env (.ref e)) step) (fun _ s'' hs => ?_) fun _ _ x => x
  obtain ⟨⟨h', rfl, k1, ⟨_, _, k2⟩, k3, k4⟩, hD⟩ := hs
  obtain ⟨oe, e1, e2⟩ := hD _ _ he
  exact hQ h' ⟨⟨B, a0, bsB, nB, k1, eB, k2, k3⟩, oe, e1, e2⟩ ((Heap.UpToSlots.of_keeps F.keep).trans k4)
end
end Mine
end
section
open PySem PySem.W PyProof.Rows PySem.Spec PySem.Calls
set_option maxRecDepth 100000
set_option maxHeartbeats 8000000
set_option pp.deepTerms false
set_option pp.deepTerms.threshold 6
namespace Mine
local macro_rules | `(tactic| walk_at "mine_no_such_node") => `(tactic| fail)
local macro_rules | `(tactic| walk_at "mine_no_such_node") => `(tactic| fail)
local macro_rules | `(tactic| walk_at "mine_no_such_node") => `(tactic| fail)
local macro_rules | `(tactic| walk_at "mine_no_such_node") => `(tactic| fail)
local macro_rules | `(tactic| walk_at "mine_no_such_node") => `(tactic| fail)
local macro_rules | `(tactic| walk_at "mine_no_such_node") => `(tactic| fail)
local macro_rules | `(tactic| walk_at "mine_no_such_node") => `(tactic| fail)
local macro_rules | `(tactic| walk_at "mine_no_such_node") => `(tactic| fail)
local macro_rules | `(tactic| walk_at "mine_no_such_node") => `(tactic| fail)
local macro_rules | `(tactic| walk_at "mine_no_such_node") => `(tactic| fail)
local macro_rules | `(tactic| walk_at "mine_no_such_node") => `(tactic| fail)
local macro_rules | `(tactic| walk_at "mine_no_such_node") => `(tactic| fail)
local macro_rules | `(tactic| walk_at "mine_no_such_node") => `(tactic| fail)
local macro_rules | `(tactic| walk_at "mine_no_such_node") => `(tactic| fail)
local macro_rules | `(tactic| walk_at "mine_no_such_node") => `(tactic| fail)
local macro_rules | `(tactic| walk_at "mine_no_such_node") => `(tactic| fail)
local macro_rules | `(tactic| walk_at "mine_no_such_node") => `(tactic| fail)
local macro_rules | `(tactic| walk_at "mine_no_such_node") => `(tactic| fail)
local macro_rules | `(tactic| walk_at "mine_no_such_node") => `(tactic| fail)
local macro_rules | `(tactic| walk_at "mine_no_such_node") => `(tactic| fail)
local macro_rules | `(tactic| walk_at "mine_no_such_node") => `(tactic| fail)
local macro_rules | `(tactic| walk_at "mine_no_such_node") => `(tactic| fail)
local macro_rules | `(tactic| walk_at "mine_no_such_node") => `(tactic| fail)
local macro_rules | `(tactic| walk_at "mine_no_such_node") => `(tactic| fail)
local macro_rules | `(tactic| walk_at "mine_no_such_node") => `(tactic| fail)
local macro_rules | `(tactic| walk_at "mine_no_such_node") => `(tactic| fail)
local macro_rules | `(tactic| walk_at "mine_no_such_node") => `(tactic| fail)
local macro_rules | `(tactic| k_all) => `(tactic| assumption)
local macro_rules | `(tactic| units_room) => `(tactic| (have hcL9 := cLine_is; (simp only [units_in1, units_deeper, Around.mark_units, units_caller]); (try dsimp only [ktrTop]); omega))
local macro_rules | `(tactic| k_units) => `(tactic| (have hcL9 := cLine_is; (simp only [units_in1, units_deeper, Around.mark_units, units_caller]); (try dsimp only [ktrTop]); omega))
local macro_rules | `(tactic| ktr_room) => `(tactic| ((try simp only [depth_under_make, depth_under_kw, depth_in1, depth_deeper, depth_caller]); (try dsimp only [ktrTop]); (simp only [recursionLimit]); omega))
local macro_rules | `(tactic| k_room) => `(tactic| ((try simp only [depth_under_make, depth_under_kw, depth_in1, depth_deeper, depth_caller]); (try dsimp only [ktrTop]); (simp only [recursionLimit]); omega))
local macro_rules | `(tactic| walk_at "call ref") => `(tactic| (refine Stop.out ?_))
local macro_rules | `(tactic| walk_at "exec For Name Call cons nil") => `(tactic| (k_here; (rename Fr _ _ _ _ => lF'); (with_unfolding_all refine' For_invVF lF' ?k1 ?k2 ?_; (case k1 => exact rfl); (case k2 => exact rfl); k_whole)))
local macro_rules | `(tactic| walk_at "call builtin:len") => `(tactic| (k_here; (with_reducible show wpAny _ _ (call (Value.builtin "len") [Value.ref _]) _ _ _); k_dflt (refine' len_vs ?N ?m ?e ?f ?_; (case N => k_asm); (case m => k_mem); (case e => assumption); (case f => omega)); intro t9 k9))
local macro_rules | `(tactic| walk_at "subscriptTail") => `(tactic| (k_here; (with_reducible show wpAny _ _ (subscriptTail _ _ (Value.ref _) (Value.int _ _)) _ _ _); k_dflt (refine' item_strs1 ?N ?m ?e ?a ?b ?f ?_; (case N => k_asm); (case m => k_mem); (case e => assumption); (case a => omega); (case b => omega); (case f => omega)); intro t9))
local macro_rules | `(tactic| walk_at "InvEndN") => `(tactic| (refine Stop.out ?_))
local macro_rules | `(tactic| walk_at "setItem ref str") => `(tactic| (k_here; k_dflt (refine' setItem_K PyProof.V.same_str (strKind_is _ _ _ _) ?v ?F ?N ?U ?d ?f ?_ ?z; (case F => k_asm); (case N => k_asm); (case U => k_updF); (case d => k_asm); (case f => k_asm); (case z => (rw [sizeLine_eq]; omega)); (case v => k_flat)); intro h' o' F' N' hd' hf'; (try dsimp only at N'); (try k_sweep)))
local macro_rules | `(tactic| walk_at "eval ListComp") => `(tactic| (refine Stop.out ?_))
local macro_rules | `(tactic| walk_at "CompEnd") => `(tactic| (refine Stop.out ?_))
local macro_rules | `(tactic| walk_at "call builtin:dict.get") => `(tactic| (k_here; k_dflt (refine get2_pairs (by k_tabat) ?_); intro t9))
local macro_rules | `(tactic| walk_at "call builtin:str.join") => `(tactic| (k_here; (with_reducible show wpAny _ _ (call (Value.builtin "str.join") [Value.str _ _, Value.ref _]) _ _ _); k_dflt (refine' join_chr ?N ?m ?s ?l ?_; (case N => k_asm); (case m => k_mem); (case s => assumption); (case l => assumption)); intro t9 k9))
local macro_rules | `(tactic| walk_at "exec Raise some none") => `(tactic| (refine Stop.out ?_))
theorem ThrownC.sub {base h : Heap} {l : List Env} {e dx : Addr} {news news' : List (Addr × Obj)} (x : ThrownC base l e dx news h) (k : ∀ q ∈ news', q ∈ news) : ThrownC base l e dx news' h := by
  obtain ⟨⟨B, a0, h1, h2, h3⟩, h4⟩ := x
  exact ⟨⟨B, a0, h1, fun q hq => h2 q (k q hq), h3⟩, h4⟩
theorem made_K {h h₀ h' : Heap} {L e : Addr} {m : Str → Option Value} {news : List (Addr × Obj)} {C : Addr} {rest : List Value} (F : Fr h₀ L h m) (N : News h₀ L h news) (hx : Heap.MadeExcOf h h' e (.ref C) rest) :
    ∃ t : Addr, Fr h₀ L h' m ∧ News h₀ L h' ((e, { cls := .ref C, data := .fields #[.ref t, .none, .none, .none, .bool false, .none] }) :: news) ∧ ∀ q ∈ news, q.1 ≠ e := by
  obtain ⟨t, he, ht, _⟩ := hx.there
  have h0 : ∀ b, h.get? b = none → h₀.get? b = none := fun b hb => by
    cases q : h₀.get? b with
    | none => rfl
    | some o => have := F.keep _ _ q; rw [hb] at this; cases this
  refine ⟨t, ⟨F.ns.keeps hx.keeps, fun b o q => hx.keeps _ _ (F.keep b o q), F.above⟩, fun q hq => ?_, fun q hq z => ?_⟩
  · rcases List.mem_cons.mp hq with rfl | hq
    · refine ⟨he, fun z => ?_, h0 _ hx.new⟩
      obtain ⟨o, es, ep, ho, _⟩ := F.ns
      have hn := hx.new
      rw [show e = L from z, ho] at hn; cases hn
    · obtain ⟨a, b, c⟩ := N q hq
      exact ⟨hx.keeps _ _ a, b, c⟩
  · have := (N q hq).1
    rw [z, hx.new] at this; cases this
theorem chartr_raise (w : World) (p : Program) (loose : List Str) (mean : ExcName → Option Value) (mg mb : Str → Option Value)
   (old new text : Str) (to tn tt : Tok) (bs ns : List Nat) (rest : List (Addr × Obj))
   (Hold : ∀ tx rest, Does PySem.Challenge.rw_pq1312_01.row.prog w (hd.heap_39 w.params) p loose mean mg mb 74 [.str old tx] rest 900 9000 (SpreadPost rest bs))
   (Hnew : ∀ tx rest, Does PySem.Challenge.rw_pq1312_01.row.prog w (hd.heap_39 w.params) p loose mean mg mb 74 [.str new tx] rest 900 9000 (SpreadPost rest ns))
   (hlen : ns.length < bs.length) (hbs : bs.length ≤ 100) :
   Throws PySem.Challenge.rw_pq1312_01.row.prog w (hd.heap_39 w.params) p loose mean mg mb 79 [.str old to, .str new tn, .str text tt] rest 800 8000
     "'old' is longer than 'new'" := by
  k_fill
  w_top off
  k_with_none
  unfold Throws
  intro dp un gd cn cs a ccd cl outer A₀ base h₀ L m s Q E B F X N T hk hdp hun hret
  refine wpAny_call ?_
  k_dflt (refine' code_defC ?k1 ?k2 ?k3 ?k4 ?k5 ?kA ?kF ?kK ?k6 ?k7 ?k8 ?k9 ?kB ?kD ?_ ?c2 ?c3 ?c4; (case kA => exact rfl); (case kF => exact rfl); (case kK => assumption); (case k1 => k_asm); (case k2 => k_asm); (case k3 => k_asm); (case k4 => k_asm); (case k5 => k_asm); (case k6 => k_is); (case k7 => k_is); (case k8 => ktr_room); (case k9 => exact BindsTo.of_eq rfl); (case kB => exact rfl); (case kD => decide +kernel); (case c2 => exact rfl); (case c3 => exact rfl); (case c4 => exact rfl); k_whole)
  intro g' L' h' tk' cells' FG' F' N' Y' B' X' T' l1
  (try k_lt l1); k_cells Y'; (try simp only [List.cons_append, List.nil_append] at N'); (try dsimp only); (try k_lift B'); (try k_fold)
  k_steps
  unfold Stop
  k_dflt (refine' (Hold _ _) _ _ _ _ _ _ _ _ _ _ _ _ _ _ _ _ _ ?k1 ?k2 ?k3 ?k4 ?k5 ?k6 ?k7 ?k8 ?_)
  (case k1 => k_asm); (case k2 => k_asm); (case k3 => k_asm); (case k4 => k_asm); (case k5 => k_asm); (case k6 => exact rfl); (case k7 => ktr_room); (case k8 => ktr_units)
  intro r9 news9 h9 tk9 hp9 F9 N9
  obtain ⟨a1, vs1, n1, e1, hvs1, hlt1, e2⟩ := hp9
  subst e1; subst e2
  (try k_lt hlt1)
  try dsimp only
  try k_fold
  k_steps
  unfold Stop
  k_dflt (refine' (Hnew _ _) _ _ _ _ _ _ _ _ _ _ _ _ _ _ _ _ _ ?k1 ?k2 ?k3 ?k4 ?k5 ?k6 ?k7 ?k8 ?_)
  (case k1 => k_asm); (case k2 => k_asm); (case k3 => k_asm); (case k4 => k_asm); (case k5 => k_asm); (case k6 => exact rfl); (case k7 => ktr_room); (case k8 => ktr_units)
  intro r9 news9 h9 tk9 hp9 F9 N9
  obtain ⟨a2, vs2, n2, e1, hvs2, hlt2, e2⟩ := hp9
  subst e1; subst e2
  (try k_lt hlt2)
  try dsimp only
  try k_fold
  have hl1 : vs1.length = bs.length := by rw [StrsAre.length hvs1, List.length_map]
  have hl2 : vs2.length = ns.length := by rw [StrsAre.length hvs2, List.length_map]
  have hr1 : ∀ q ∈ rest, q.1 ≠ L' + 1 := fun q hq => Nat.ne_of_lt (Nat.lt_succ_of_lt (l1 q hq))
  k_steps
  unfold Stop
  refine Raise_C (C := 44) rfl ?_
  k_steps
  unfold Stop
  rename Fr _ _ _ _ => lF; rename News _ _ _ _ => lN; rename Frag.In _ _ => lX
  obtain ⟨mN, mD, R⟩ := refP_in lX
  obtain ⟨oI, hI, hIc⟩ := R.f
  refine call_own (R.r.keeps lF.keep) R.di R.i (lF.keep _ _ hI) hIc (by rw [sizeLine_eq]; exact (by decide : 1 ≤ 16777216)) ?_
  intro h9 e9 hx
  try dsimp only at lF lN
  obtain ⟨t9, F9, N9, ne9⟩ := made_K lF lN hx
  k_dflt (refine' (init_c w p loose mean mg mb e9 _ _ _ _ ne9) _ _ _ _ _ _ _ _ _ _ _ _ _ _ _ _ _ ?k1 ?k2 ?k3 ?k4 ?k5 ?k6 ?k7 ?k8 ?_)
  (case k1 => k_asm); (case k2 => exact F9); (case k3 => assumption); (case k4 => exact N9); (case k5 => k_asm); (case k6 => exact rfl); (case k7 => (change Around.depth _ + 1 < 990; (try simp only [depth_deeper, depth_in1]); (try dsimp only [ktrTop]); omega)); (case k8 => ((have hcL9 := cLine_is); (change Around.units _ + 1 < 9900); (simp only [units_in1, units_deeper, Around.mark_units, units_caller]); (try dsimp only [ktrTop]); omega))
  intro r8 news8 h8 tk8 hp8 F8 N8
  obtain ⟨dx, oD, rfl, hne, hM, rfl⟩ := hp8
  have R8 := R.r.keeps F8.keep
  refine ⟨rfl, e9, _, _, 24, mN, mD, rfl, R8, (N8 _ (.tail _ (.head _))).1, rfl, rfl, rfl, ?_⟩
  refine leaveC (a0 := .ref t9) (by assumption) F8 rfl rfl N8 rfl rfl ?_ ?_
  · intro q hq
    rcases List.mem_cons.mp hq with rfl | hq
    · exact hne
    · exact ne9 q hq
  · intro h' hT hU
    exact hret e9 dx oD _ _ h' _ (by assumption) hU hM (hT.sub fun q hq => by
      rcases List.mem_cons.mp hq with rfl | hq
      · exact .head _
      · exact .tail _ (.tail _ (.tail _ (.tail _ hq))))
end Mine
end
section
open PySem PySem.W PyProof.Rows PySem.Spec PySem.Calls
set_option maxRecDepth 100000
set_option maxHeartbeats 8000000
namespace Mine
theorem execs_split {env : Env} : ∀ (n : Nat) (l : List Stmt), execs l env = (execs (l.take n) env >>= fun f => match f with | .next => execs (l.drop n) env | f => pure f)
  | 0, l => by
    show _ = (pure Flow.next >>= _)
    rw [pure_bind]; rfl
  | n + 1, [] => by
    show _ = (pure Flow.next >>= _)
    rw [pure_bind]; rfl
  | n + 1, st :: rest => by
    rw [List.take_succ_cons, List.drop_succ_cons, execs_cons, execs_cons, bind_assoc]
    congr 1
    funext f
    cases f with
    | next => exact execs_split n rest
    | _ => exact (pure_bind _ _).symm
theorem cutN {M : Model} {A : Around} {E : Value → Shared → Prop} {s : Shared} {env : Env} {Q : Flow → Shared → Prop} (n : Nat) (P : Shared → Prop) {l : List Stmt}
    (h : wpAny M A (execs (l.take n) env) (fun f s' => match f with | .next => P s' | f => Q f s') E s)
    (k : ∀ s', P s' → wpAny M A (execs (l.drop n) env) Q E s') : wpAny M A (execs l env) Q E s := by
  rw [execs_split n l]
  refine wpAny_bind (wpAny_mono h (fun f s' hf => ?_) fun _ _ x => x)
  cases f with
  | next => exact k s' hf
  | _ => exact wpAny_pure hf
def SrcOk (a1 a2 : Nat) (tail news : List (Addr × Obj)) : Prop :=
  ∃ (b c : Int) (tb tc : Tok) (n1 n2 : Nat) (vs : List Value) (ns : List Int), 0 ≤ b ∧ 0 ≤ c ∧ c < 2147483563 ∧ IntsAre vs ns ∧ vs.length ≤ 40 ∧
    news = (a2, W.listOf #[.ref a1, .int b tb, .int c tc] n2) :: (a1, W.listOf vs.toArray n1) :: tail
theorem takePost_src {a1 a2 : Nat} {rest news : List (Addr × Obj)} {most : Int} {r : Value} (h : TakePost a1 a2 rest most r news) : ∃ x t, r = .int x t ∧ 0 ≤ x ∧ x < most ∧ SrcOk a1 a2 rest news := by
  obtain ⟨x, b', c', t, tb', tc', n1', n2', vs', ns', e1, h1, h2, h3, h4, h5, h6, h7, e2⟩ := h
  exact ⟨x, t, e1, h1, h2, b', c', tb', tc', n1', n2', vs', ns', h3, h4, h5, h6, h7, e2⟩
def alpha : List Nat := [97, 98, 99, 100, 101, 44, 59, 49]
theorem News.sub {h₀ h : Heap} {L : Addr} {news news' : List (Addr × Obj)} (N : News h₀ L h news) (k : ∀ q ∈ news', q ∈ news) : News h₀ L h news' := fun q hq => N q (k q hq)
structure Cells (om on oo os : Obj) (m n o : Option Value) (a2 : Nat) : Prop where
  m : om.data = .cell m
  n : on.data = .cell n
  o : oo.data = .cell o
  s : os.data = .cell (some (.ref a2))
end Mine
end
section
open PySem PySem.W PyProof.Rows PySem.Spec PySem.Calls
set_option maxRecDepth 100000
set_option maxHeartbeats 8000000
namespace Mine
def oldL (k : Nat) : List Nat := [97, 98, 99, 100, 101].take (k + 1)
def newL (k sh : Nat) : List Nat := ([86, 87, 88, 89, 90].drop sh ++ [86, 87, 88, 89, 90].take sh).take (k + 1)
def mapC (k sh c : Nat) : Nat := (((oldL k).zip (newL k sh)).lookup c).getD c
theorem elt_facts : ∀ k, k < 5 → ∀ sh, sh < 2 → ∀ c, c ∈ alpha →
    ((Builtin.Str.occurrences (mk (oldL k)) (chr1 c) 0 (mk (oldL k)).length 1).isEmpty = true ∧ mapC k sh c = c) ∨
    ((Builtin.Str.occurrences (mk (oldL k)) (chr1 c) 0 (mk (oldL k)).length 1).isEmpty = false ∧ ∃ j : Nat, j < 5 ∧ Txt.find (mk (oldL k)) (chr1 c) = (j : Int) ∧ j < (mk (newL k sh)).length ∧ (mk (newL k sh)).cps.getD j 0 = mapC k sh c) := by decide +kernel
theorem snocM {ys : List Value} {l : List Nat} {f : Nat → Nat} {i c : Nat} {x : Str} {t : Tok} (hc : (mk l).cps[i]? = some c) (hy : StrsAre ys ((l.take i).map fun c => chr1 (f c))) (hx : x = chr1 (f c)) :
    StrsAre (ys ++ [.str x t]) ((l.take (i + 1)).map fun c => chr1 (f c)) := by
  have hc2 : l[i]? = some c := by simpa using hc
  rw [List.take_add_one, hc2, hx]
  simpa using strs_snoc1 hy
theorem memL {l : List Nat} {i c : Nat} (hc : (mk l).cps[i]? = some c) : c ∈ l := by
  have hc2 : l[i]? = some c := by simpa using hc
  exact List.mem_of_getElem? hc2
theorem old_len : ∀ k, k < 5 → (oldL k).length = k + 1 := by decide
theorem new_len : ∀ k, k < 5 → ∀ sh, sh < 2 → (newL k sh).length = k + 1 := by decide
theorem old_nd : ∀ k, k < 5 → (oldL k).Nodup := by decide
theorem new_nd : ∀ k, k < 5 → ∀ sh, sh < 2 → (newL k sh).Nodup := by decide
theorem old_no : ∀ k, k < 5 → ∀ c ∈ oldL k, c ≠ 45 := by decide
theorem new_no : ∀ k, k < 5 → ∀ sh, sh < 2 → ∀ c ∈ newL k sh, c ≠ 45 := by decide
theorem wide_old : ∀ k, k < 5 → (rangeKs 97 (97 + k - 96)).map Int.toNat = oldL k := by decide +kernel
theorem wide_eq : ∀ k : Nat, k < 5 → Str.ofString "a-" ++ Txt.item (Str.ofString "abcde") (1 + (k : Int) - 1) = ⟨#[97, 45, 97 + k]⟩ := by decide +kernel
theorem inv_map : ∀ k, k < 5 → ∀ sh, sh < 2 → ∀ c ∈ alpha, (((newL k sh).zip (oldL k)).lookup (mapC k sh c)).getD (mapC k sh c) = c := by decide +kernel
theorem inv_mapL {k sh : Nat} (hk : k < 5) (hs : sh < 2) {l : List Nat} (h : ∀ c ∈ l, c ∈ alpha) : (l.map (mapC k sh)).map (fun c => (((newL k sh).zip (oldL k)).lookup c).getD c) = l := by
  rw [List.map_map]
  exact (List.map_congr_left fun c hc => inv_map k hk sh hs c (h c hc)).trans (List.map_id l)
section
variable (w : World) (p : Program) (loose : List Str) (mean : ExcName → Option Value) (mg mb : Str → Option Value)
theorem sp_old {k : Nat} (hk : k < 5) (tx : Tok) (rest : List (Addr × Obj)) :
    Does PySem.Challenge.rw_pq1312_01.row.prog w (hd.heap_39 w.params) p loose mean mg mb 74 [.str (mk (oldL k)) tx] rest 900 9000 (SpreadPost rest (oldL k)) :=
  spread_c w p loose mean mg mb (mk (oldL k)) tx rest (by rw [← cl_len]; exact Nat.le_trans (Nat.le_of_eq (old_len k hk)) (by omega)) (old_no k hk)
theorem sp_new {k sh : Nat} (hk : k < 5) (hs : sh < 2) (tx : Tok) (rest : List (Addr × Obj)) :
    Does PySem.Challenge.rw_pq1312_01.row.prog w (hd.heap_39 w.params) p loose mean mg mb 74 [.str (mk (newL k sh)) tx] rest 900 9000 (SpreadPost rest (newL k sh)) :=
  spread_c w p loose mean mg mb (mk (newL k sh)) tx rest (by rw [← cl_len]; exact Nat.le_trans (Nat.le_of_eq (new_len k hk sh hs)) (by omega)) (new_no k hk sh hs)
theorem sp_wide {k : Nat} {x : Str} (hx : x = ⟨#[97, 45, 97 + k]⟩) (hk : k < 5) (tx : Tok) (rest : List (Addr × Obj)) :
    Does PySem.Challenge.rw_pq1312_01.row.prog w (hd.heap_39 w.params) p loose mean mg mb 74 [.str x tx] rest 900 9000 (SpreadPost rest (oldL k)) := by
  rw [← wide_old k hk]
  exact spread_w w p loose mean mg mb x tx (97 + k) rest hx (by omega) (by omega)
theorem lenOK {l : List Nat} (h : l.length ≤ 8) : (mk l).length ≤ 100 := by rw [← cl_len]; exact Nat.le_trans h (by decide)
theorem ch_due {k sh : Nat} (hk : k < 5) (hs : sh < 2) {l : List Nat} (hl : l.length ≤ 8) (to tn tt : Tok) (rest : List (Addr × Obj)) :
    Does PySem.Challenge.rw_pq1312_01.row.prog w (hd.heap_39 w.params) p loose mean mg mb 79 [.str (mk (oldL k)) to, .str (mk (newL k sh)) tn, .str (mk l) tt] rest 800 8000
      (fun r news' => ∃ t, r = .str (mk (l.map (mapC k sh))) t ∧ news' = rest) :=
  chartr_c w p loose mean mg mb (mk (oldL k)) (mk (newL k sh)) (mk l) to tn tt (oldL k) (newL k sh) rest (sp_old w p loose mean mg mb hk) (sp_new w p loose mean mg mb hk hs)
    (by rw [old_len k hk, new_len k hk sh hs]; exact Nat.le_refl _) (by rw [new_len k hk sh hs]; omega) (old_nd k hk) (lenOK hl)
theorem ch_inv {k sh : Nat} (hk : k < 5) (hs : sh < 2) {l : List Nat} (hl : l.length ≤ 8) (hla : ∀ c ∈ l, c ∈ alpha) (to tn tt : Tok) (rest : List (Addr × Obj)) :
    Does PySem.Challenge.rw_pq1312_01.row.prog w (hd.heap_39 w.params) p loose mean mg mb 79 [.str (mk (newL k sh)) tn, .str (mk (oldL k)) to, .str (mk (l.map (mapC k sh))) tt] rest 800 8000
      (fun r news' => ∃ t, r = .str (mk l) t ∧ news' = rest) := by
  have h := chartr_c w p loose mean mg mb (mk (newL k sh)) (mk (oldL k)) (mk (l.map (mapC k sh))) tn to tt (newL k sh) (oldL k) rest (sp_new w p loose mean mg mb hk hs) (sp_old w p loose mean mg mb hk)
    (by rw [old_len k hk, new_len k hk sh hs]; exact Nat.le_refl _) (by rw [old_len k hk]; omega) (new_nd k hk sh hs) (lenOK (by rw [List.length_map]; exact hl))
  have e : (mk (l.map (mapC k sh))).cps.toList.map (fun c => (((newL k sh).zip (oldL k)).lookup c).getD c) = l := inv_mapL hk hs hla
  rw [e] at h
  exact h
theorem ch_wide {k sh : Nat} (hk : k < 5) (hs : sh < 2) {l : List Nat} (hl : l.length ≤ 8) {x : Str} (hx : x = ⟨#[97, 45, 97 + k]⟩) (to tn tt : Tok) (rest : List (Addr × Obj)) :
    Does PySem.Challenge.rw_pq1312_01.row.prog w (hd.heap_39 w.params) p loose mean mg mb 79 [.str x to, .str (mk (newL k sh)) tn, .str (mk l) tt] rest 800 8000
      (fun r news' => ∃ t, r = .str (mk (l.map (mapC k sh))) t ∧ news' = rest) :=
  chartr_c w p loose mean mg mb x (mk (newL k sh)) (mk l) to tn tt (oldL k) (newL k sh) rest (sp_wide w p loose mean mg mb hx hk) (sp_new w p loose mean mg mb hk hs)
    (by rw [old_len k hk, new_len k hk sh hs]; exact Nat.le_refl _) (by rw [new_len k hk sh hs]; omega) (old_nd k hk) (lenOK hl)
theorem ch_none {k sh : Nat} (hk : k < 5) (hs : sh < 2) (to tn : Tok) (rest : List (Addr × Obj)) :
    Does PySem.Challenge.rw_pq1312_01.row.prog w (hd.heap_39 w.params) p loose mean mg mb 79 [.str (mk (oldL k)) to, .str (mk (newL k sh)) tn, .none] rest 800 8000
      (fun r news' => r = .none ∧ news' = rest) :=
  chartr_none w p loose mean mg mb (mk (oldL k)) (mk (newL k sh)) to tn (oldL k) (newL k sh) rest (sp_old w p loose mean mg mb hk) (sp_new w p loose mean mg mb hk hs)
    (by rw [old_len k hk, new_len k hk sh hs]; exact Nat.le_refl _) (by rw [new_len k hk sh hs]; omega)
end
end Mine
end
section
open PySem PySem.W PyProof.Rows PySem.Spec PySem.Calls
set_option maxRecDepth 100000
set_option maxHeartbeats 8000000
set_option pp.deepTerms false
set_option pp.deepTerms.threshold 8
namespace Mine
section
variable {prog : Program} {w : World} {A₀ : Around} {E : Value → Shared → Prop} {s' : Shared} {h₀ g : Heap} {outer : List Env} {L e dx : Addr} {m : Str → Option Value} {news : List (Addr × Obj)}
theorem caught_C {env : Env} {n : Str} {t : Expr} {b₀ : Stmt} {suite : List Stmt} {pos : Pos} {rest : List ExceptHandler} {Q : Flow → Shared → Prop} {mN mD : Str → Option Value}
    (K : Below A₀ h₀ outer h₀) (hf : env.frame = some L) (T : ThrownC h₀ (env :: outer) e dx news s'.heap) (F : Fr h₀ L g m) (hsm : g.UpToSlots s'.heap) (R : RefP h₀ mN mD)
    (hname : ∀ h₅ (Q' E' : Value → Shared → Prop), Fr h₀ L h₅ m → Q' (.ref 44) { s' with heap := h₅ } → wpAny (model prog w) ((A₀.deeper env).mark (some (.ref e))) (eval t env) Q' E' { s' with heap := h₅ })
    (k : ∀ h₆ oe vs (E₁ E₂ : Value → Shared → Prop), Fr h₀ L h₆ m → News h₀ L h₆ ((e, oe) :: news) → oe.cls = .ref 44 → oe.dict = some dx → oe.data = .fields vs →
      wpAny (model prog w) ((A₀.deeper env).mark (some (.ref e))) (storeName env n (.ref e)) (fun _ s₂ => wpAny (model prog w) ((A₀.deeper env).mark (some (.ref e))) (execs (b₀ :: suite) env)
        (fun f s₄ => wpAny (model prog w) (A₀.deeper env) (do bindName env n .none; unbindBehindTheSuite env n pos) (fun _ s₅ => Q f s₅) E s₄) E₂ s₂) E₁ { s' with heap := h₆ }) :
    wpAny (model prog w) (A₀.deeper env) (noteFrame (.ref e) env)
      (fun _ s₂ => wpAny (model prog w) (A₀.deeper env) (setFlight (.ref e) none) (fun _ s₃ =>
        wpAny (model prog w) (A₀.deeper env) (handleBy (.ref e) env (.ExceptHandler (some t) (some n) (b₀ :: suite) pos :: rest)) Q E s₃) E s₂) E s' := by
  obtain ⟨⟨B, a0, hB, hl, hfl⟩, oe0, he0, hd0⟩ := T
  have hL : B.get? L = none := by
    obtain ⟨_, ⟨L', _, hf', hn', _⟩, _⟩ := hfl.2.2.1
    rw [hf] at hf'
    obtain rfl : L = L' := Option.some.inj hf'
    exact hn'
  refine wpAny_mono (KD.any (KD.noteFrame _ _) (wpAny_looks_onW (Q := fun _ s₂ => ∃ h', s₂ = { s' with heap := h' } ∧ Heap.HeldW B (env :: outer) e (.ref 44) a0 L h' ∧ s'.heap.UpToSlots h') (Around.frames_deeper K.stack) hf hfl fun h₄ a b => ⟨h₄, rfl, a, b⟩)) (fun _ s₂ h₂ => ?_) fun _ _ x => x
  obtain ⟨⟨h₄, rfl, hheld₄, hsm₄⟩, hD₄⟩ := h₂
  obtain ⟨oe4, he4, hd4⟩ := hD₄ _ _ he0
  refine wpAny_mono (KD.any (KD.setFlight _ _) (wpAny_landsW (Q := fun _ s₃ => ∃ h', s₃ = { s' with heap := h' } ∧ Heap.FlyingW B (env :: outer) e (.ref 44) a0 h' ∧ h₄.UpToSlots h') hheld₄ fun h₅ a b => ⟨h₅, rfl, a, b⟩)) (fun _ s₃ h₃ => ?_) fun _ _ x => x
  obtain ⟨⟨h₅, rfl, hheld, hsm₅'⟩, hD₅⟩ := h₃
  obtain ⟨oe5, he5, hd5⟩ := hD₅ _ _ he4
  have hsm₅ := hsm₄.trans hsm₅'
  have hheld' := flyingW_base hB hheld
  have F₅ := F.of_stays hheld'.1 (hsm.trans hsm₅)
  obtain ⟨ob, hob, hobc⟩ := hheld'.there
  obtain ⟨nm, q', N, bs, sn, sub, ab, col, dd, k0, k1, k2, k3, k5, hC, _⟩ := (R.r.keeps F₅.keep).c
  refine wpAny_handleBy_cons (codeAny_handlers_test (hname h₅ _ _ F₅ ?_)) (by intro q; cases q)
  refine wpAny_excMatches_sub_self hC hob hobc (by simp) (codeAny_handlers_suite_as ?_)
  refine wpAny_mono (KD.any (KD.setFlight _ _) (lands_againW (Q := fun _ s₃ => ∃ h', s₃ = { s' with heap := h' } ∧ Heap.FlyingW B (env :: outer) e (.ref 44) a0 h' ∧ h₅.UpToSlots h') hheld fun h₆ a b => ⟨h₆, rfl, a, b⟩)) (fun _ s₃ h₃ => ?_) fun _ _ x => x
  obtain ⟨⟨h₆, rfl, hfl₆, hsm₆⟩, hD₆⟩ := h₃
  obtain ⟨oe6, he6, hd6⟩ := hD₆ _ _ he5
  have hfl₆' := flyingW_base hB hfl₆
  have F₆ := F.of_stays hfl₆'.1 ((hsm.trans hsm₅).trans hsm₆)
  obtain ⟨oe, ws, hoe, hoec, hoed, hoe0⟩ := hfl₆'.first
  have hdx : oe.dict = some dx := by
    rw [hoe] at he6; cases he6
    exact (hd6.trans (hd5.trans (hd4.trans hd0)))
  have Nl : News h₀ L h₆ news := fun q hq => ⟨hfl₆.1 _ _ (hl q hq).1, (fun z => by have := (hl q hq).1; rw [z, hL] at this; cases this), (hl q hq).2⟩
  have N₆ := News.more F₆ Nl hoe (fun es n q => by rw [hoed] at q; cases q) hfl₆'.2.1
  exact k h₆ oe ws _ _ F₆ N₆ hoec hdx hoed
theorem goes_C {M : Model} {A : Around} {s : Shared} {env : Env} {n : Str} {pos : Pos} {Q : Unit → Shared → Prop} (F : Fr h₀ env.locals s.heap m) (N : News h₀ env.locals s.heap news)
    (hl : env.kindOf n = some .local) (hp : (env.scope.kind == .class || (env.scope.kind == .module && env.locals != env.globals)) = false)
    (h : ∀ h' v, Fr h₀ env.locals h' (fun x => if x = n then v else m x) → News h₀ env.locals h' news → Q () { s with heap := h', toks := s.toks + 1 }) :
    wpAny M A (do bindName env n .none; unbindBehindTheSuite env n pos) Q E s :=
  wpAny_nameGoes_keeps hl F.ns hp fun h' v hn hs => h h' v (F.set hn hs) (N.set hs)
theorem fr_again {h : Heap} {n : Str} {v u : Option Value} (F : Fr h₀ L h (fun y => if y = n then v else if y = n then u else m y)) : Fr h₀ L h (fun y => if y = n then v else m y) := by
  have e : (fun y => if y = n then v else if y = n then u else m y) = fun y => if y = n then v else m y := funext fun y => by
    by_cases hy : y = n
    · rw [if_pos hy, if_pos hy]
    · rw [if_neg hy, if_neg hy, if_neg hy]
  rw [← e]; exact F
theorem fr_same {h : Heap} (n : Str) (F : Fr h₀ L h m) : Fr h₀ L h (fun y => if y = n then m n else m y) := by
  have e : (fun y => if y = n then m n else m y) = m := funext fun y => by
    by_cases hy : y = n
    · rw [if_pos hy, hy]
    · rw [if_neg hy]
  rw [e]; exact F
end
end Mine
end
section
open PySem PySem.W PyProof.Rows PySem.Spec PySem.Calls
set_option maxRecDepth 100000
set_option maxHeartbeats 8000000
namespace Mine
theorem sub_front (l : List Nat) (f : Nat) : subL l 1 f = l.take f := by simp [subL]
theorem sub_back (l : List Nat) (f : Nat) : subL l (f + 1) l.length = l.drop f := by
  simp only [subL, Nat.add_sub_cancel]
  exact List.take_of_length_le (by rw [List.length_drop]; exact Nat.le_refl _)
theorem sub_glue (l : List Nat) (f : Nat) : mk (subL l 1 f) ++ mk (subL l (f + 1) l.length) = mk l := by
  rw [append_mk, sub_front, sub_back, List.take_append_drop]
theorem asg_same (l : List Nat) (i j : Nat) : asgL l i j (subL l i j) = l := by
  unfold asgL subL
  split
  · rfl
  · rename_i h
    have e0 : max i 1 - 1 = i - 1 := by omega
    rw [e0]
    have e1 : ((l.drop (i - 1)).take (j - (i - 1))).length = min j l.length - (i - 1) := by rw [List.length_take, List.length_drop]; omega
    rw [e1, Nat.min_self, List.take_of_length_le (Nat.le_of_eq e1)]
    have e2 : (l.drop (i - 1)).take (j - (i - 1)) = (l.drop (i - 1)).take (min j l.length - (i - 1)) := by
      by_cases hj : j ≤ l.length
      · rw [Nat.min_eq_left hj]
      · rw [Nat.min_eq_right (by omega), List.take_of_length_le (by rw [List.length_drop]; omega), List.take_of_length_le (by rw [List.length_drop]; omega)]
    rw [e2, List.append_assoc]
    have e3 : l.drop (i - 1 + (min j l.length - (i - 1))) = (l.drop (i - 1)).drop (min j l.length - (i - 1)) := by rw [List.drop_drop]
    rw [e3, List.take_append_drop, List.take_append_drop]
theorem asg_sub (l v : List Nat) (i j : Nat) (hi : 0 < i) (hij : i ≤ j) (hj : j ≤ l.length) (hv : v.length = j - i + 1) : subL (asgL l i j v) i j = v := by
  unfold asgL
  have e0 : max i 1 - 1 = i - 1 := by omega
  have e1 : min j l.length = j := Nat.min_eq_left hj
  have e2 : min (j - (i - 1)) v.length = v.length := by omega
  rw [if_neg (by omega), e0, e1, e2, List.take_of_length_le (Nat.le_refl _)]
  unfold subL
  have e3 : (l.take (i - 1)).length = i - 1 := by rw [List.length_take]; omega
  rw [List.append_assoc]
  have e4 : (l.take (i - 1) ++ (v ++ l.drop (i - 1 + v.length))).drop (i - 1) = v ++ l.drop (i - 1 + v.length) := by
    have := List.drop_left (l₁ := l.take (i - 1)) (l₂ := v ++ l.drop (i - 1 + v.length))
    rw [e3] at this; exact this
  rw [e4]
  have e5 : j - (i - 1) = v.length := by omega
  rw [e5, List.take_left]
theorem asg_len (l v : List Nat) (i j : Nat) : (asgL l i j v).length ≤ l.length + v.length := by
  unfold asgL
  split
  · omega
  · simp only [List.length_append, List.length_take, List.length_drop]; omega
theorem sub_len (l : List Nat) (i j : Nat) : (subL l i j).length ≤ l.length := by
  unfold subL
  simp only [List.length_take, List.length_drop]; omega
theorem sub_lenS (l : List Nat) (i j : Nat) : (mk (subL l i j)).length ≤ l.length := by rw [← cl_len]; exact sub_len l i j
theorem sub_sz {l : List Nat} (hl : l.length ≤ 8) (i j i' j' : Nat) : (mk (subL l i j)).length + (mk (subL l i' j')).length ≤ sizeLine := by
  rw [sizeLine_eq]
  have h1 := sub_lenS l i j
  have h2 := sub_lenS l i' j'
  omega
theorem rq (l : List Nat) : Txt.slice (mk (cl (mk l ++ Str.ofString "Q")).reverse) none (some 1) = Str.ofString "Q" := by
  have e : Str.ofString "Q" = mk [81] := by decide +kernel
  rw [e, append_mk]
  have h := slice_ns (mk (cl (mk (l ++ [81]))).reverse) 1
  refine Eq.trans h ?_
  show mk ((l ++ [81]).reverse.take 1) = mk [81]
  rw [List.reverse_append]
  rfl
section
variable {prog : Program} {w : World} {A : Around} {E : Value → Shared → Prop} {s : Shared} {h₀ : Heap} {L D : Addr} {news : List (Addr × Obj)} {n : Nat}
theorem item_at {value slice : Expr} {arr : Array Value} {v : Value} {k : Nat} {u : Tok} {Q : Value → Shared → Prop} (N : News h₀ L s.heap news) (hm : (D, W.listOf arr n) ∈ news)
    (hk : arr[k]? = some v) (hz : k < 1000) (h : Q v s)
    (hs : subscripted slice false (.ref D) (.int (k : Int) u) = operate [.ref D, .int (k : Int) u] (getItem (.ref D) (.int (k : Int) u)) := by with_unfolding_all rfl) :
    wpAny (model prog w) A (subscriptTail value slice (.ref D) (.int (k : Int) u)) Q E s := by
  have hL : s.heap.IsList D arr := ⟨_, (N _ hm).1, rfl, _, rfl⟩
  exact tail_any hL.typeIs slot_list_getitem.lookup (wpAny_getItem_list hL (by omega) (by omega) (by simpa using hk) h) hs
theorem join_ws {vs : List Value} {ws : List Str} {M : Str} {t : Tok} {Q : Value → Shared → Prop} (N : News h₀ L s.heap news) (hm : (D, W.listOf vs.toArray n) ∈ news) (hs : StrsAre vs ws) (hM : M.length ≤ 2)
    (hl : ws.length ≤ 1000) (hsum : (ws.map (·.length)).sum ≤ 1000)
    (h : ∀ t k, Q (.str (Str.join M ws) t) { s with toks := k }) : wpAny (model prog w) A (call (.builtin "str.join") [.str M t, .ref D]) Q E s := by
  have hL : s.heap.IsList D vs.toArray := ⟨_, (N _ hm).1, rfl, _, rfl⟩
  refine join_listW hL (by simpa using hs) (by omega) (by omega) ?_
  have e : Txt.join M ws = Str.join M ws := by simpa using join_plain_closes M ws
  rw [e]
  exact h
end
theorem trim_weight {x y : Str} (hx : x.length ≤ 100) (hy : 1 ≤ y.length) : (trimL (Txt.split x y)).length ≤ 1000 ∧ ((trimL (Txt.split x y)).map (·.length)).sum ≤ 1000 := by
  have h := split_weight x y hy
  unfold trimL
  split
  · have h1 : (Txt.split x y).dropLast.length ≤ (Txt.split x y).length := by rw [List.length_dropLast]; omega
    have h2 : ((Txt.split x y).dropLast.map (·.length)).sum ≤ ((Txt.split x y).map (·.length)).sum := by
      have e := congrArg (fun l => (l.map Str.length).sum) (List.dropLast_concat_getLast (split_ne x y))
      rw [List.map_append, List.sum_append] at e
      exact Nat.le_trans (Nat.le_add_right _ _) (Nat.le_of_eq e)
    omega
  · omega
theorem glue_sz {x J M : Str} (hx : x.length ≤ 100) (h : J ++ M = x) : J.length + M.length ≤ sizeLine := by
  rw [sizeLine_eq, ← Str.length_append, h]
  omega
theorem strs_at {vs : List Value} {ws : List Str} (h : StrsAre vs ws) {i : Nat} {v : Value} (e : vs[i]? = some v) : ∃ p t, v = .str p t ∧ p ∈ ws := by
  induction h generalizing i with
  | nil => simp at e
  | @cons vs ws x t r ih =>
    cases i with
    | zero => simp at e; exact ⟨_, _, e.symm, .head _⟩
    | succ i =>
      obtain ⟨p, t', e1, e2⟩ := ih (by simpa using e)
      exact ⟨p, t', e1, .tail _ e2⟩
theorem strs_two {vs us : List Value} {ws : List Str} (h1 : StrsAre vs ws) (h2 : StrsAre us ws) (j : Nat) (a : j < vs.length) (b : j < us.length) : ∃ p t u, vs[j] = .str p t ∧ us[j] = .str p u := by
  induction h1 generalizing us j with
  | nil => exact absurd a (Nat.not_lt_zero _)
  | @cons vs ws x t r ih =>
    cases h2 with
    | cons _ u r2 =>
      cases j with
      | zero => exact ⟨_, _, _, rfl, rfl⟩
      | succ j => exact ih r2 j (Nat.lt_of_succ_lt_succ a) (Nat.lt_of_succ_lt_succ b)
section
variable {prog : Program} {w : World} {A : Around} {E : Value → Shared → Prop} {s : Shared} {h₀ : Heap} {L D D' : Addr} {news : List (Addr × Obj)} {n : Nat}
theorem notin_bools {ys : List Value} {Q : Value → Shared → Prop} (N : News h₀ L s.heap news) (hm : (D, W.listOf ys.toArray n) ∈ news) (hy : ∀ y ∈ ys, y = .bool false) (h : Q (.bool true) s) :
    wpAny (model prog w) A (compareOp .NotIn (.bool true) (.ref D)) Q E s := by
  have hL : s.heap.IsList D ys.toArray := ⟨_, (N _ hm).1, rfl, _, rfl⟩
  refine SeqAt.notIn_listAt (fun _ => false) hL (fun y hyy => ?_) ?_
  · rw [hy y (by simpa using hyy)]
    exact SeqAt.EqAt.bool_bool false true
  · have e : (!ys.toArray.any fun _ => false) = true := by simp
    rw [e]; exact h
theorem eq_strs {vs us : List Value} {ws : List Str} {Q : Value → Shared → Prop} (N : News h₀ L s.heap news) (hm : (D, W.listOf vs.toArray n) ∈ news) (hL' : s.heap.IsList D' us.toArray)
    (h1 : StrsAre vs ws) (h2 : StrsAre us ws) (hu : A.units < cLine) (h : Q (.bool true) s) : wpAny (model prog w) A (compareOp .Eq (.ref D) (.ref D')) Q E s := by
  have hL : s.heap.IsList D vs.toArray := ⟨_, (N _ hm).1, rfl, _, rfl⟩
  have e1 := StrsAre.length h1
  have e2 := StrsAre.length h2
  refine SeqAt.eq_listAt (e := fun _ => true) hL hL' (by simp [e1, e2]) hu (fun j a b => ?_) ?_
  · obtain ⟨p, t, u, q1, q2⟩ := strs_two h1 h2 j (by simpa using a) (by simpa using b)
    have q1' : vs.toArray[j] = .str p t := by simpa using q1
    have q2' : us.toArray[j] = .str p u := by simpa using q2
    rw [q1', q2']
    have := SeqAt.EqAt.str_str (A := A.in1) (s := s) p t p u
    rw [beq_self_eq_true] at this
    exact this
  · have e : ((List.range vs.toArray.size).all fun _ => true) = true := by simp
    rw [e]; exact h
end
def marks : List Str := [Str.ofString ",", Str.ofString ";", Str.ofString ",;", Str.ofString "e"]
theorem marks_get {t0 t1 t2 t3 : Tok} {x : Nat} (hx : x < 4) : ∃ M t, (#[.str (Str.ofString ",") t0, .str (Str.ofString ";") t1, .str (Str.ofString ",;") t2, .str (Str.ofString "e") t3] : Array Value)[x]? = some (.str M t) ∧ M ∈ marks := by
  rcases (by omega : x = 0 ∨ x = 1 ∨ x = 2 ∨ x = 3) with rfl | rfl | rfl | rfl
  · exact ⟨_, _, rfl, .head _⟩
  · exact ⟨_, _, rfl, .tail _ (.head _)⟩
  · exact ⟨_, _, rfl, .tail _ (.tail _ (.head _))⟩
  · exact ⟨_, _, rfl, .tail _ (.tail _ (.tail _ (.head _)))⟩
theorem marks_len : ∀ M ∈ marks, M.length ≤ 2 ∧ 1 ≤ M.length ∧ (M.length == 0) = false ∧ (M == Str.ofString "") = false ∧ Builtin.Str.strKind M = 1 := by decide +kernel
theorem reordM {h₀ h : Heap} {L : Addr} {x y1 y2 : Addr × Obj} {r : List (Addr × Obj)} (N : News h₀ L h (x :: y1 :: y2 :: r)) : News h₀ L h (y1 :: y2 :: x :: r) := fun q hq => N q (by simp only [List.mem_cons] at hq ⊢; grind)
theorem slice_new : ∀ k, k < 5 → ∀ sh, sh < 2 → Txt.slice (mk (newL k sh)) none (some (-1)) = mk ((newL k sh).take k) := by decide +kernel
section
variable (w : World) (p : Program) (loose : List Str) (mean : ExcName → Option Value) (mg mb : Str → Option Value)
theorem rv1 {l : List Nat} (hl : l.length ≤ 8) (tt : Tok) (rest : List (Addr × Obj)) :
    Does PySem.Challenge.rw_pq1312_01.row.prog w (hd.heap_39 w.params) p loose mean mg mb 86 [.str (mk l) tt] rest 900 9000
      (fun r news' => ∃ t, r = .str (mk l.reverse) t ∧ news' = rest) := rev_c w p loose mean mg mb (mk l) tt rest (lenOK hl)
theorem rv2 {l : List Nat} (hl : l.length ≤ 8) (tt : Tok) (rest : List (Addr × Obj)) :
    Does PySem.Challenge.rw_pq1312_01.row.prog w (hd.heap_39 w.params) p loose mean mg mb 86 [.str (mk l.reverse) tt] rest 900 9000
      (fun r news' => ∃ t, r = .str (mk l) t ∧ news' = rest) := by
  have h := rv1 w p loose mean mg mb (l := l.reverse) (by rw [List.length_reverse]; exact hl) tt rest
  rw [List.reverse_reverse] at h
  exact h
theorem rvQ {l : List Nat} (hl : l.length ≤ 8) (tt : Tok) (rest : List (Addr × Obj)) :
    Does PySem.Challenge.rw_pq1312_01.row.prog w (hd.heap_39 w.params) p loose mean mg mb 86 [.str (mk l ++ Str.ofString "Q") tt] rest 900 9000
      (fun r news' => ∃ x t, r = .str x t ∧ x.length ≤ 100 ∧ Txt.slice x none (some 1) = Str.ofString "Q" ∧ news' = rest) := by
  have hl2 : (mk l ++ Str.ofString "Q").length ≤ 100 := by
    have e : Str.ofString "Q" = mk [81] := by decide +kernel
    rw [e, append_mk, ← cl_len]
    show (l ++ [81]).length ≤ 100
    rw [List.length_append]; exact Nat.le_trans (Nat.add_le_add_right hl _) (by decide)
  intro dp un gd cn cs a ccd clo outer A₀ base h₀ L m s Q E B F X N T hk hdp hun hret
  refine rev_c w p loose mean mg mb (mk l ++ Str.ofString "Q") tt rest hl2 dp un gd cn cs a ccd clo outer A₀ base h₀ L m s Q E B F X N T hk hdp hun ?_
  rintro r news' h' tk' ⟨t, rfl, rfl⟩ F' N'
  refine hret _ _ _ _ ⟨_, t, rfl, ?_, rq l, rfl⟩ F' N'
  rw [← cl_len, show cl (mk (cl (mk l ++ Str.ofString "Q")).reverse) = (cl (mk l ++ Str.ofString "Q")).reverse from rfl, List.length_reverse, cl_len]
  exact hl2
theorem sub_I {l : List Nat} (hl : l.length ≤ 100) {a b : Int} (i j : Nat) (ha : a = i) (hb : b = j) (hi : i ≤ 1000) (hj : j ≤ 1000) (tt ta tb : Tok) (rest : List (Addr × Obj)) :
    Does PySem.Challenge.rw_pq1312_01.row.prog w (hd.heap_39 w.params) p loose mean mg mb 60 [.str (mk l) tt, .int a ta, .int b tb] rest 900 9000
      (fun r news' => ∃ t, r = .str (mk (subL l i j)) t ∧ news' = rest) := by
  subst ha; subst hb
  exact sub_c w p loose mean mg mb (mk l) tt i j ta tb rest (by rw [← cl_len]; exact hl) hi hj
theorem asg_I {l v : List Nat} (hl : l.length ≤ 100) (hv : v.length ≤ 100) {a b : Int} (i j : Nat) (ha : a = i) (hb : b = j) (hi : i ≤ 1000) (hj : j ≤ 1000) (tt ta tb tv : Tok) (rest : List (Addr × Obj)) :
    Does PySem.Challenge.rw_pq1312_01.row.prog w (hd.heap_39 w.params) p loose mean mg mb 67 [.str (mk l) tt, .int a ta, .int b tb, .str (mk v) tv] rest 900 9000
      (fun r news' => ∃ t, r = .str (mk (asgL l i j v)) t ∧ news' = rest) := by
  subst ha; subst hb
  exact asg_c w p loose mean mg mb (mk l) (mk v) tt tv i j ta tb rest (by rw [← cl_len]; exact hl) (by rw [← cl_len]; exact hv) hi hj
theorem asg_piece {l : List Nat} (hl : l.length ≤ 8) {a b : Int} (i j : Nat) (ha : a = i) (hb : b = j) (hi : i ≤ 1000) (hj : j ≤ 1000) (tt ta tb tv : Tok) (rest : List (Addr × Obj)) :
    Does PySem.Challenge.rw_pq1312_01.row.prog w (hd.heap_39 w.params) p loose mean mg mb 67 [.str (mk l) tt, .int a ta, .int b tb, .str (mk (subL l i j)) tv] rest 900 9000
      (fun r news' => ∃ t, r = .str (mk l) t ∧ news' = rest) := by
  have h := asg_I w p loose mean mg mb (l := l) (v := subL l i j) (Nat.le_trans hl (by decide)) (Nat.le_trans (sub_len l i j) (Nat.le_trans hl (by decide))) i j ha hb hi hj tt ta tb tv rest
  rw [asg_same] at h
  exact h
theorem qrep (z : Int) : Txt.mul (Str.ofString "Q") z = mk (List.replicate z.toNat 81) := by
  refine Str.ext' (Array.toList_inj.mp ?_)
  have e : Str.ofString "Q" = ⟨#[81]⟩ := by decide +kernel
  rw [e, PyProof.Rows.mul_one_list]
theorem asg_Q {l : List Nat} (hl : l.length ≤ 8) {a b z : Int} (i j : Nat) (ha : a = i) (hb : b = j) (hi : i ≤ 1000) (hj : j ≤ 1000) (hz : z ≤ 50) (tt ta tb tv : Tok) (rest : List (Addr × Obj)) :
    Does PySem.Challenge.rw_pq1312_01.row.prog w (hd.heap_39 w.params) p loose mean mg mb 67 [.str (mk l) tt, .int a ta, .int b tb, .str (Txt.mul (Str.ofString "Q") z) tv] rest 900 9000
      (fun r news' => ∃ t, r = .str (mk (asgL l i j (List.replicate z.toNat 81))) t ∧ news' = rest) := by
  rw [qrep]
  exact asg_I w p loose mean mg mb (Nat.le_trans hl (by decide)) (by rw [List.length_replicate]; omega) i j ha hb hi hj tt ta tb tv rest
theorem sub_Q {l : List Nat} (hl : l.length ≤ 8) {a b z : Int} (i j : Nat) (ha : a = i) (hb : b = j) (h0 : 0 < i) (hij : i ≤ j) (hj : j ≤ l.length) (hz : z = (j : Int) - i + 1) (tt ta tb : Tok) (rest : List (Addr × Obj)) :
    Does PySem.Challenge.rw_pq1312_01.row.prog w (hd.heap_39 w.params) p loose mean mg mb 60 [.str (mk (asgL l i j (List.replicate z.toNat 81))) tt, .int a ta, .int b tb] rest 900 9000
      (fun r news' => ∃ t, r = .str (Txt.mul (Str.ofString "Q") z) t ∧ news' = rest) := by
  have hv : (List.replicate z.toNat 81).length = j - i + 1 := by rw [List.length_replicate]; omega
  have h := sub_I w p loose mean mg mb (l := asgL l i j (List.replicate z.toNat 81)) (Nat.le_trans (asg_len _ _ _ _) (by rw [hv]; omega)) i j ha hb (by omega) (by omega) tt ta tb rest
  rw [asg_sub l _ i j h0 hij hj hv] at h
  rw [qrep]
  exact h
theorem ch_raise {k sh : Nat} (hk : k < 5) (hs : sh < 2) {l : List Nat} {x : Str} (hx : x = mk ((newL k sh).take k)) (to tn tt : Tok) (rest : List (Addr × Obj)) :
    Throws PySem.Challenge.rw_pq1312_01.row.prog w (hd.heap_39 w.params) p loose mean mg mb 79 [.str (mk (oldL k)) to, .str x tn, .str (mk l) tt] rest 800 8000 "'old' is longer than 'new'" := by
  subst hx
  have hl : ((newL k sh).take k).length = k := by rw [List.length_take, new_len k hk sh hs]; omega
  exact chartr_raise w p loose mean mg mb (mk (oldL k)) (mk ((newL k sh).take k)) (mk l) to tn tt (oldL k) ((newL k sh).take k) rest (sp_old w p loose mean mg mb hk)
    (fun tx rest => spread_c w p loose mean mg mb (mk ((newL k sh).take k)) tx rest (by rw [← cl_len]; exact Nat.le_trans (Nat.le_of_eq hl) (by omega)) (fun c hc => new_no k hk sh hs c (List.take_subset _ _ hc)))
    (by rw [hl, old_len k hk]; omega) (by rw [old_len k hk]; omega)
end
end Mine
end
section
open PySem PySem.W PyProof.Rows PySem.Spec PySem.Calls
set_option maxRecDepth 100000
set_option maxHeartbeats 8000000
set_option pp.deepTerms false
set_option pp.deepTerms.threshold 6
namespace Mine
local macro_rules | `(tactic| walk_at "mine_no_such_node") => `(tactic| fail)
local macro_rules | `(tactic| walk_at "mine_no_such_node") => `(tactic| fail)
local macro_rules | `(tactic| walk_at "mine_no_such_node") => `(tactic| fail)
local macro_rules | `(tactic| walk_at "mine_no_such_node") => `(tactic| fail)
local macro_rules | `(tactic| walk_at "mine_no_such_node") => `(tactic| fail)
local macro_rules | `(tactic| walk_at "mine_no_such_node") => `(tactic| fail)
local macro_rules | `(tactic| walk_at "mine_no_such_node") => `(tactic| fail)
local macro_rules | `(tactic| walk_at "mine_no_such_node") => `(tactic| fail)
local macro_rules | `(tactic| walk_at "mine_no_such_node") => `(tactic| fail)
local macro_rules | `(tactic| walk_at "mine_no_such_node") => `(tactic| fail)
local macro_rules | `(tactic| walk_at "mine_no_such_node") => `(tactic| fail)
local macro_rules | `(tactic| walk_at "mine_no_such_node") => `(tactic| fail)
local macro_rules | `(tactic| walk_at "mine_no_such_node") => `(tactic| fail)
local macro_rules | `(tactic| walk_at "mine_no_such_node") => `(tactic| fail)
local macro_rules | `(tactic| walk_at "mine_no_such_node") => `(tactic| fail)
local macro_rules | `(tactic| walk_at "mine_no_such_node") => `(tactic| fail)
local macro_rules | `(tactic| walk_at "mine_no_such_node") => `(tactic| fail)
local macro_rules | `(tactic| walk_at "mine_no_such_node") => `(tactic| fail)
local macro_rules | `(tactic| walk_at "mine_no_such_node") => `(tactic| fail)
local macro_rules | `(tactic| walk_at "mine_no_such_node") => `(tactic| fail)
local macro_rules | `(tactic| walk_at "mine_no_such_node") => `(tactic| fail)
local macro_rules | `(tactic| walk_at "mine_no_such_node") => `(tactic| fail)
local macro_rules | `(tactic| walk_at "mine_no_such_node") => `(tactic| fail)
local macro_rules | `(tactic| walk_at "mine_no_such_node") => `(tactic| fail)
local macro_rules | `(tactic| walk_at "mine_no_such_node") => `(tactic| fail)
local macro_rules | `(tactic| walk_at "mine_no_such_node") => `(tactic| fail)
local macro_rules | `(tactic| walk_at "mine_no_such_node") => `(tactic| fail)
local macro_rules | `(tactic| walk_at "mine_no_such_node") => `(tactic| fail)
local macro_rules | `(tactic| walk_at "mine_no_such_node") => `(tactic| fail)
local macro_rules | `(tactic| walk_at "mine_no_such_node") => `(tactic| fail)
local macro_rules | `(tactic| walk_at "mine_no_such_node") => `(tactic| fail)
local macro_rules | `(tactic| walk_at "mine_no_such_node") => `(tactic| fail)
local macro_rules | `(tactic| walk_at "mine_no_such_node") => `(tactic| fail)
local macro_rules | `(tactic| walk_at "mine_no_such_node") => `(tactic| fail)
local macro_rules | `(tactic| walk_at "mine_no_such_node") => `(tactic| fail)
local macro_rules | `(tactic| walk_at "mine_no_such_node") => `(tactic| fail)
local macro_rules | `(tactic| k_all) => `(tactic| assumption)
local macro_rules | `(tactic| walk_at "eval ListComp") => `(tactic| (refine Stop.out ?_))
local macro_rules | `(tactic| walk_at "call ref") => `(tactic| (refine Stop.out ?_))
local macro_rules | `(tactic| walk_at "CompSrc") => `(tactic| (refine Stop.out ?_))
local macro_rules | `(tactic| walk_at "getAttr ref str") => `(tactic| (refine Stop.out ?_))
local macro_rules | `(tactic| walk_at "compareOp Eq ref ref") => `(tactic| (refine Stop.out ?_))
local macro_rules | `(tactic| walk_at "CompEnd") => `(tactic| (refine Stop.out ?_))
local macro_rules | `(tactic| walk_at "call builtin:str.join") => `(tactic| (k_here; (with_reducible show wpAny _ _ (call (Value.builtin "str.join") [Value.str _ _, Value.ref _]) _ _ _); k_dflt (refine' join_chr ?N ?m ?s ?l ?_; (case N => k_asm); (case m => k_mem); (case s => assumption); (case l => assumption)); intro t9 k9))
def PA (_ : World) (s1 : Shared) (m : Str → Option Value) (s' : Shared) : Prop :=
  ∃ (h : Heap) (tk : Nat) (l : List Nat) (t : Tok) (a1 a2 : Nat) (om on oo os : Obj) (news : List (Addr × Obj)), s' = { s1 with heap := h, toks := tk } ∧
    (∀ c ∈ l, c ∈ alpha) ∧ l.length ≤ 8 ∧ a1 < a2 ∧ s1.heap.objs.size + 1 + 1 + 1 + 1 < a1 ∧ Cells om on oo os none none none a2 ∧
    SrcOk a1 a2 [(s1.heap.objs.size + 1 + 1 + 1 + 1, om), (s1.heap.objs.size + 1 + 1 + 1, on), (s1.heap.objs.size + 1 + 1, oo), (s1.heap.objs.size + 1, os)] news ∧
    Fr s1.heap s1.heap.objs.size h (fun y => if y = Str.ofString "text_of" then some (.str (mk l) t) else m y) ∧ News s1.heap s1.heap.objs.size h news
theorem pick1 {h₀ h : Heap} {L : Addr} {x1 x2 x3 x4 c4 c3 c2 c1 : Addr × Obj} (N : News h₀ L h [x1, x2, x3, x4, c4, c3, c2, c1]) : News h₀ L h [x1, x3, c4, c3, c2, c1] := fun q hq => N q (by simp only [List.mem_cons] at hq ⊢; grind)
theorem reord {h₀ h : Heap} {L : Addr} {x1 x2 x3 y1 y2 : Addr × Obj} {r : List (Addr × Obj)} (N : News h₀ L h (x1 :: x2 :: x3 :: y1 :: y2 :: r)) : News h₀ L h (y1 :: y2 :: x1 :: x2 :: x3 :: r) := fun q hq => N q (by simp only [List.mem_cons] at hq ⊢; grind)
theorem len40 {vs : List Value} {ns : List Int} (h : IntsAre vs (List.take 40 ns)) : vs.length ≤ 40 := by
  rw [IntsAre.length h, List.length_take]; omega
theorem reord2 {x1 x2 x3 y1 y2 : Addr × Obj} {r : List (Addr × Obj)} : ∀ p ∈ x1 :: x2 :: x3 :: y1 :: y2 :: r, p ∈ y1 :: y2 :: x1 :: x2 :: x3 :: r := fun q hq => by simp only [List.mem_cons] at hq ⊢; grind
theorem alpha_get : ∀ x, x < 8 → (Str.ofString "abcde,;1").cps.getD x 0 ∈ alpha := by decide +kernel
theorem snoc_alpha {ys : List Value} {cs : List Nat} {x : Nat} {t : Tok} (hx : x < 8) (hy : StrsAre ys (cs.map chr1)) :
    StrsAre (ys ++ [.str (Txt.item (Str.ofString "abcde,;1") (x : Int)) t]) ((cs ++ [(Str.ofString "abcde,;1").cps.getD x 0]).map chr1) := by
  rw [item_nat (x := Str.ofString "abcde,;1") (i := x) hx, List.map_append]
  exact strs_snoc1 hy
theorem mem_alpha {cs : List Nat} {x : Nat} (hx : x < 8) (h : ∀ c ∈ cs, c ∈ alpha) : ∀ c ∈ cs ++ [(Str.ofString "abcde,;1").cps.getD x 0], c ∈ alpha := fun c hc => by
  rcases List.mem_append.mp hc with hc | hc
  · exact h c hc
  · rw [List.mem_singleton.mp hc]; exact alpha_get x hx
local macro_rules | `(tactic| k_caught0) => `(tactic| ((with_reducible show wpAny _ _ (call (Value.ref 93) _) _ _ _); (k_dflt (refine' (take_c _ _ _ _ _ _ _ _ _ _ _ _ _ _ _ _ _ _ _ ?q1 ?q2 ?q3 ?q4 ?q5 ?q6 ?q7 ?q8 ?q9 ?q10) _ _ _ _ _ _ _ _ _ _ _ _ _ _ _ _ _ ?k1 ?k2 ?k3 ?k4 ?k5 ?k6 ?k7 ?k8 ?_)); (case k4 => k_asm); (case k1 => k_asm); (case k2 => k_asm); (case k3 => k_asm); (case k5 => k_asm); (case k6 => exact rfl); (case k7 => ktr_room); (case k8 => ktr_units); (case q1 => assumption); (case q4 => assumption); (case q2 => ((simp only [List.forall_mem_cons, List.not_mem_nil, false_imp_iff, implies_true, and_true]); refine ⟨?_, ?_, ?_, ?_⟩ <;> exact Nat.ne_of_lt (by omega))); (case q3 => ((simp only [List.forall_mem_cons, List.not_mem_nil, false_imp_iff, implies_true, and_true]); refine ⟨?_, ?_, ?_, ?_⟩ <;> exact Nat.ne_of_lt (by omega))); (case q5 => assumption); (case q6 => assumption); (case q7 => assumption); (case q8 => assumption); (case q9 => first | decide | omega); (case q10 => first | decide | omega); (intro r7 nw7 h7 tk7 hp7 F7 N7; obtain ⟨x7, t7, e71, x70, x71, hS7⟩ := takePost_src hp7; obtain ⟨b7, c7, tb7, tc7, n17, n27, vs7, ns7, hb7, hc7, hc27, hI7, hl7, e72⟩ := hS7; clear hp7; obtain ⟨x6, e73⟩ : ∃ k : Nat, x7 = k := ⟨Int.toNat x7, by omega⟩; subst e71; subst e72; subst e73; (try k_fold))))
theorem cutF {M : Model} {A : Around} {E : Value → Shared → Prop} {s : Shared} {env : Env} {Q : Flow → Shared → Prop} {h₀ hh : Heap} {L : Addr} {m : Str → Option Value} (_ : Fr h₀ L hh m) (n : Nat) (P : (Str → Option Value) → Shared → Prop) {l : List Stmt}
    (h : wpAny M A (execs (l.take n) env) (fun f s' => match f with | .next => P m s' | f => Q f s') E s)
    (k : ∀ s', P m s' → wpAny M A (execs (l.drop n) env) Q E s') : wpAny M A (execs l env) Q E s := cutN n (P m) h k
def PB (_ : World) (s1 : Shared) (m : Str → Option Value) (s' : Shared) : Prop :=
  ∃ (h : Heap) (tk : Nat) (k sh : Nat) (tk1 tk2 tn to : Tok) (a1 a2 : Nat) (om on oo os : Obj) (news : List (Addr × Obj)), s' = { s1 with heap := h, toks := tk } ∧
    k < 5 ∧ sh < 2 ∧ a1 < a2 ∧ s1.heap.objs.size + 1 + 1 + 1 + 1 < a1 ∧ Cells om on oo os none (some (.str (mk (newL k sh)) tn)) (some (.str (mk (oldL k)) to)) a2 ∧
    SrcOk a1 a2 [(s1.heap.objs.size + 1 + 1 + 1 + 1, om), (s1.heap.objs.size + 1 + 1 + 1, on), (s1.heap.objs.size + 1 + 1, oo), (s1.heap.objs.size + 1, os)] news ∧
    Fr s1.heap s1.heap.objs.size h (fun y => if y = Str.ofString "shift" then some (.int sh tk2) else if y = Str.ofString "count" then some (.int (1 + (k : Int)) tk1) else m y) ∧ News s1.heap s1.heap.objs.size h news
theorem cellOld {o : Obj} {k : Nat} {t : Tok} (h : o.data = .cell (some (.str (Txt.slice (Str.ofString "abcde") none (some (1 + (k : Int)))) t))) : o.data = .cell (some (.str (mk (oldL k)) t)) := by
  rw [h, slice_nsI _ (by omega)]
  have e : (1 + (k : Int)).toNat = k + 1 := by omega
  rw [e]; rfl
theorem cellNew {o : Obj} {k sh : Nat} {t : Tok} (h : o.data = .cell (some (.str (Txt.slice (Txt.slice (Str.ofString "VWXYZ") (some (sh : Int)) none ++ Txt.slice (Str.ofString "VWXYZ") none (some (sh : Int))) none (some (1 + (k : Int)))) t))) :
    o.data = .cell (some (.str (mk (newL k sh)) t)) := by
  rw [h, slice_nsI _ (by omega), slice_sn, slice_ns, append_mk]
  have e : (1 + (k : Int)).toNat = k + 1 := by omega
  rw [e]; rfl
def PC (s1 : Shared) (news : List (Addr × Obj)) (m : Str → Option Value) (s' : Shared) : Prop :=
  ∃ (h : Heap) (tk : Nat) (W D : Str) (tw td : Tok), s' = { s1 with heap := h, toks := tk } ∧
    Fr s1.heap s1.heap.objs.size h (fun y => if y = Str.ofString "wide" then some (.str W tw) else if y = Str.ofString "due" then some (.str D td) else m y) ∧ News s1.heap s1.heap.objs.size h news
def PD (s1 : Shared) (news : List (Addr × Obj)) (m : Str → Option Value) (s' : Shared) : Prop :=
  ∃ (h : Heap) (tk : Nat) (v : Option Value), s' = { s1 with heap := h, toks := tk } ∧
    Fr s1.heap s1.heap.objs.size h (fun y => if y = Str.ofString "error" then v else m y) ∧ News s1.heap s1.heap.objs.size h news
def PE (s1 : Shared) (l : List Nat) (a1 a2 : Nat) (tail : List (Addr × Obj)) (m : Str → Option Value) (s' : Shared) : Prop :=
  ∃ (h : Heap) (tk : Nat) (f g : Nat) (tS tF tL tP : Tok) (news : List (Addr × Obj)), s' = { s1 with heap := h, toks := tk } ∧ f < l.length + 2 ∧ g < l.length + 3 ∧ SrcOk a1 a2 tail news ∧
    Fr s1.heap s1.heap.objs.size h (fun y => if y = Str.ofString "piece_of" then some (.str (mk (subL l f g)) tP) else if y = Str.ofString "last" then some (.int (g : Int) tL) else if y = Str.ofString "first" then some (.int (f : Int) tF) else if y = Str.ofString "size_of" then some (.int (l.length : Int) tS) else m y) ∧ News s1.heap s1.heap.objs.size h news
def PF (s1 : Shared) (news : List (Addr × Obj)) (m : Str → Option Value) (s' : Shared) : Prop :=
  ∃ (h : Heap) (tk : Nat), s' = { s1 with heap := h, toks := tk } ∧ Fr s1.heap s1.heap.objs.size h m ∧ News s1.heap s1.heap.objs.size h news
def PG (s1 : Shared) (m : Str → Option Value) (s' : Shared) : Prop :=
  ∃ (h : Heap) (tk : Nat) (M : Str) (tM : Tok) (om : Obj), s' = { s1 with heap := h, toks := tk } ∧ M ∈ marks ∧ om.data = .cell (some (.str M tM)) ∧
    Fr s1.heap s1.heap.objs.size h m ∧ News s1.heap s1.heap.objs.size h [(s1.heap.objs.size + 1 + 1 + 1 + 1, om)]
def PH (s1 : Shared) (M : Str) (om : Obj) (m : Str → Option Value) (s' : Shared) : Prop :=
  ∃ (h : Heap) (tk : Nat) (a n : Nat) (vs : List Value) (ws : List Str) (G : Str) (tG : Tok), s' = { s1 with heap := h, toks := tk } ∧ StrsAre vs ws ∧ (∀ p ∈ ws, Builtin.Str.occurrences p M 0 p.length 1 = []) ∧ ws.length ≤ 1000 ∧
    Fr s1.heap s1.heap.objs.size h (fun y => if y = Str.ofString "glued_of" then some (.str G tG) else if y = Str.ofString "parts_of" then some (.ref a) else m y) ∧ News s1.heap s1.heap.objs.size h [(a, W.listOf vs.toArray n), (s1.heap.objs.size + 1 + 1 + 1 + 1, om)]
theorem law_holds : PySem.Challenge.rw_pq1312_01.Holds := Mine.hd (by
  k_with_none
  k_go0
  (all_goals try k_fold)
  rename Shared => s1
  rename Fr _ _ _ _ => lF
  rename World => w
  refine cutF lF 2 (PA w s1) ?_ ?_
  · dsimp only [List.take]
    k_steps
    unfold Stop
    rename News _ _ _ _ => lN
    have lN2 := pick1 lN
    clear lN
    rename Fr _ _ _ _ => kF
    k_dflt (refine LCg.ListComp_U kF (by with_unfolding_all rfl) (by decide) (by rfl) (by decide) (by rfl) ?_)
    k_steps
    unfold Stop
    k_dflt (refine' (take_c w _ _ _ _ _ _ _ _ _ _ _ _ _ _ _ _ _ _ ?q1 ?q2 ?q3 ?q4 ?q5 ?q6 ?q7 ?q8 ?q9 ?q10) _ _ _ _ _ _ _ _ _ _ _ _ _ _ _ _ _ ?k1 ?k2 ?k3 ?k4 ?k5 ?k6 ?k7 ?k8 ?_)
    case k4 => exact lN2
    case k1 => k_asm
    case k2 => k_asm
    case k3 => k_asm
    case k5 => k_asm
    case k6 => exact rfl
    case k7 => ktr_room
    case k8 => ktr_units
    case q1 => omega
    case q4 => assumption
    case q2 => (simp only [List.forall_mem_cons, List.not_mem_nil, false_imp_iff, implies_true, and_true]; refine ⟨?_, ?_, ?_, ?_⟩ <;> exact Nat.ne_of_lt (by omega))
    case q3 => (simp only [List.forall_mem_cons, List.not_mem_nil, false_imp_iff, implies_true, and_true]; refine ⟨?_, ?_, ?_, ?_⟩ <;> exact Nat.ne_of_lt (by omega))
    case q5 => exact len40 (by assumption)
    case q6 => decide
    case q7 => exact Int.add_nonneg (by decide) (fm_lo _ _ (by decide))
    case q8 => exact Int.lt_of_lt_of_le (Int.add_lt_add_left (fm_hi _ _ (by decide)) _) (by decide)
    case q9 => decide
    case q10 => decide
    intro r9 nw9 h9 tk9 hp9 F9 N9
    obtain ⟨n9, t9, rfl, n90, n91, hS9⟩ := takePost_src hp9
    clear hp9 lN2 kF
    obtain ⟨b9, c9, tb9, tc9, n19, n29, vs9, ns9, hb9, hc9, hc29, hI9, hl9, rfl⟩ := id hS9
    obtain ⟨k9, rfl⟩ : ∃ k : Nat, n9 = k := ⟨n9.toNat, by omega⟩
    try k_fold
    k_steps
    unfold Stop
    rename IsRange _ _ _ _ _ _ _ _ => hR
    rename Fr _ _ _ _ => kF; rename News _ _ _ _ => kN
    refine LCg.CompSrc.range (n := k9) (by rfl) kF kN hR (small_one (by decide) (by decide) (by omega) (by omega)) (rangeSize_nat _ _) (by rw [sizeLine_eq]; omega) ?_
    intro g9
    refine compRest_inv (Inv := fun i ys news => ∃ cs : List Nat, StrsAre ys (cs.map chr1) ∧ cs.length = i ∧ (∀ c ∈ cs, c ∈ alpha) ∧ SrcOk _ _ _ news) ?_ ?_ k9 0 [] _ (Nat.zero_add _) ⟨[], .nil, rfl, fun _ h => (List.not_mem_nil h).elim, hS9⟩
    · clear kF kN
      intro i v I oI C oC D m₂ ys news h tk E' hi hP hI hC hx F N off ne
      obtain ⟨u, rfl⟩ := hP
      obtain ⟨cs, hy, hcl, hca, hS⟩ := hI
      obtain ⟨b8, c8, tb8, tc8, n18, n28, vs8, ns8, hb8, hc8, hc28, hI8, hl8, rfl⟩ := hS
      have off0 := off
      simp only [LCg.Off3] at off
      have N2 := reord N
      clear N
      try k_fold
      k_steps
      unfold Stop
      k_dflt (refine' (take_c w _ _ _ _ _ _ _ _ _ _ _ _ _ _ _ _ _ _ ?q1 ?q2 ?q3 ?q4 ?q5 ?q6 ?q7 ?q8 ?q9 ?q10) _ _ _ _ _ _ _ _ _ _ _ _ _ _ _ _ _ ?k1 ?k2 ?k3 ?k4 ?k5 ?k6 ?k7 ?k8 ?_)
      case k4 => exact N2
      case k1 => k_asm
      case k2 => k_asm
      case k3 => k_asm
      case k5 => k_asm
      case k6 => exact rfl
      case k7 => ktr_room
      case k8 => ktr_units
      case q1 => omega
      case q4 => assumption
      case q2 => (simp only [List.forall_mem_cons, List.not_mem_nil, false_imp_iff, implies_true, and_true]; refine ⟨Ne.symm off.2.1.1, Ne.symm off.2.1.2.1, Ne.symm off.2.1.2.2, ?_, ?_, ?_, ?_⟩ <;> exact Nat.ne_of_lt (by omega))
      case q3 => (simp only [List.forall_mem_cons, List.not_mem_nil, false_imp_iff, implies_true, and_true]; refine ⟨Ne.symm off.1.1, Ne.symm off.1.2.1, Ne.symm off.1.2.2, ?_, ?_, ?_, ?_⟩ <;> exact Nat.ne_of_lt (by omega))
      case q5 => assumption
      case q6 => assumption
      case q7 => assumption
      case q8 => assumption
      case q9 => decide
      case q10 => decide
      intro r7 nw7 h7 tk7 hp7 F7 N7
      obtain ⟨x7, t7, rfl, x70, x71, hS7⟩ := takePost_src hp7
      obtain ⟨b7, c7, tb7, tc7, n17, n27, vs7, ns7, hb7, hc7, hc27, hI7, hl7, rfl⟩ := id hS7
      clear hp7 N2 F
      obtain ⟨x6, rfl⟩ : ∃ k : Nat, x7 = k := ⟨x7.toNat, by omega⟩
      try k_fold
      k_steps
      unfold Stop
      have hx6 : x6 < 8 := by omega
      exact LCg.CompEnd.intro F7 N7 ((_, _) :: (_, _) :: _) reord2 off0 trivial ⟨cs ++ [(Str.ofString "abcde,;1").cps.getD x6 0], snoc_alpha hx6 hy, by rw [List.length_append, hcl]; rfl, mem_alpha hx6 hca, b7, c7, tb7, tc7, n17, n27, vs7, ns7, hb7, hc7, hc27, hI7, hl7, rfl⟩
    · clear kF kN
      rintro ys news ⟨cs, hy, hcl, hca, hS⟩
      obtain ⟨b8, c8, tb8, tc8, n18, n28, vs8, ns8, hb8, hc8, hc28, hI8, hl8, rfl⟩ := id hS
      have hcl2 : cs.length ≤ 1000 := by omega
      k_steps
      rename Fr _ _ _ _ => kF; rename News _ _ _ _ => kN
      exact ⟨_, _, cs, _, _, _, _, _, _, _, _, rfl, hca, by omega, by omega, by omega, ⟨by with_unfolding_all assumption, by with_unfolding_all assumption, by with_unfolding_all assumption, by assumption⟩, ⟨b8, c8, tb8, tc8, n18, n28, vs8, ns8, hb8, hc8, hc28, hI8, hl8, rfl⟩, kF, News.sub kN fun q hq => .tail _ hq⟩
  intro s9 hp9
  dsimp only [List.drop]
  clear lF
  obtain ⟨hA, tkA, l, tl, a1, a2, om, on, oo, os, nw, rfl, hla, hll, hlt1, hlt2, hCe, hS, lF, lN⟩ := hp9
  obtain ⟨b, c, tb, tc, n1, n2, vs, ns, hb, hc, hc2, hI, hl9, rfl⟩ := hS
  obtain ⟨hm, hn, ho, hs⟩ := hCe
  have hll2 : (mk l).length ≤ 100 := by rw [← cl_len]; exact Nat.le_trans hll (by decide)
  try k_fold
  refine cutF lF 5 (PB w s1) ?_ ?_
  · dsimp only [List.take]
    k_steps
    unfold Stop
    k_caught0
    k_steps
    unfold Stop
    k_caught0
    k_steps
    rename Fr _ _ _ _ => kF; rename News _ _ _ _ => kN
    exact ⟨_, _, _, _, _, _, _, _, a1, a2, _, _, _, _, _, rfl, by omega, by omega, hlt1, hlt2, ⟨hm, cellNew (by assumption), cellOld (by assumption), hs⟩, ⟨_, _, _, _, _, _, _, _, by assumption, by assumption, by assumption, by assumption, by assumption, rfl⟩, kF, kN⟩
  intro s9 hp9
  dsimp only [List.drop]
  clear lF lN hm hn ho hs hb hc hc2 hI hl9 hlt1 hlt2
  obtain ⟨hB, tkB, k, sh, tk1, tk2, tn, to, a1, a2, om, on, oo, os, nw, rfl, hk5, hsh, hlt1, hlt2, hCe, hS, lF, lN⟩ := hp9
  obtain ⟨b, c, tb, tc, n1, n2, vs, ns, hb, hc, hc2, hI, hl9, rfl⟩ := hS
  obtain ⟨hm, hn, ho, hs⟩ := hCe
  try k_fold
  refine cutF lF 4 (PC s1 ((a2, W.listOf #[.ref a1, .int b tb, .int c tc] n2) :: (a1, W.listOf vs.toArray n1) :: [(s1.heap.objs.size + 1 + 1 + 1 + 1, om), (s1.heap.objs.size + 1 + 1 + 1, on), (s1.heap.objs.size + 1 + 1, oo), (s1.heap.objs.size + 1, os)])) ?_ ?_
  · dsimp only [List.take]
    k_steps
    unfold Stop
    rename Fr _ _ _ _ => kF
    k_dflt (refine ListComp_S kF (by with_unfolding_all rfl) (by decide) (by rfl) (by decide) (by rfl) ?_)
    k_steps
    rename Fr _ _ _ _ => kF2; rename News _ _ _ _ => kN
    refine ⟨mk l, _, _, rfl, rfl, kF2, kN, by omega, ?_⟩
    rintro s₂ ⟨g9, rfl⟩
    refine compRest_inv (Inv := fun i ys news => StrsAre ys ((l.take i).map fun c => chr1 (mapC k sh c)) ∧ news = _) ?_ ?_ (mk l).cps.size 0 [] _ (Nat.zero_add _) ⟨.nil, rfl⟩
    · clear kN kF2
      intro i v I oI C oC D m₂ ys news h tk E' hi hP hI hC hx F N off ne
      obtain ⟨c, u, hc, rfl⟩ := hP
      obtain ⟨hy, rfl⟩ := hI
      have off0 := off
      simp only [LCg.Off3] at off
      try k_fold
      k_steps
      · unfold Stop
        rcases elt_facts k hk5 sh hsh c (hla c (memL hc)) with ⟨-, h2⟩ | ⟨h1, -⟩
        · exact LCg.CompEnd.intro F N _ (fun p hp => hp) off0 trivial ⟨snocM hc hy (by rw [h2]), rfl⟩
        · exfalso; simp_all
      · exfalso; simp_all
      · rcases elt_facts k hk5 sh hsh c (hla c (memL hc)) with ⟨h1, -⟩ | ⟨-, j, hj5, hj1, hj2, hj3⟩
        · exfalso; simp_all
        rw [hj1]
        refine item_str (fitsSsize_of (N := 1000) (by omega) (by omega) (by decide)) (by omega) (by omega) ?_
        intro _
        k_steps
        unfold Stop
        rename Fr _ _ _ _ => F9; rename News _ _ _ _ => N9
        exact LCg.CompEnd.intro F9 N9 _ (fun p hp => hp) off0 trivial ⟨snocM hc hy (by rw [item_nat hj2, hj3]), rfl⟩
    · rintro ys news ⟨hy, rfl⟩
      have hy2 : StrsAre ys ((l.map (mapC k sh)).map chr1) := by
        have e9 : l.take (mk l).cps.size = l := by rw [← Array.length_toList]; exact List.take_length
        rw [e9] at hy; rw [List.map_map]; exact hy
      clear hy kN kF2
      have hyl : (l.map (mapC k sh)).length ≤ 1000 := by rw [List.length_map]; omega
      k_steps
      unfold Stop
      (k_dflt (refine' (ch_due w _ _ _ _ _ hk5 hsh hll _ _ _ _) _ _ _ _ _ _ _ _ _ _ _ _ _ _ _ _ _ ?k1 ?k2 ?k3 ?k4 ?k5 ?k6 ?k7 ?k8 ?_); (case k4 => k_asm); (case k1 => k_asm); (case k2 => k_asm); (case k3 => k_asm); (case k5 => k_asm); (case k6 => exact rfl); (case k7 => ktr_room); (case k8 => ktr_units))
      rintro r9 nw9 h9 tk9 ⟨t9, rfl, rfl⟩ F9 N9
      try k_fold
      k_steps
      unfold Stop
      (k_dflt (refine' (ch_inv w _ _ _ _ _ hk5 hsh hll hla _ _ _ _) _ _ _ _ _ _ _ _ _ _ _ _ _ _ _ _ _ ?k1 ?k2 ?k3 ?k4 ?k5 ?k6 ?k7 ?k8 ?_); (case k4 => k_asm); (case k1 => k_asm); (case k2 => k_asm); (case k3 => k_asm); (case k5 => k_asm); (case k6 => exact rfl); (case k7 => ktr_room); (case k8 => ktr_units))
      rintro r9 nw9 h9 tk9 ⟨t9, rfl, rfl⟩ F9 N9
      try k_fold
      k_steps
      unfold Stop
      (k_dflt (refine' (ch_wide w _ _ _ _ _ hk5 hsh hll (wide_eq _ hk5) _ _ _ _) _ _ _ _ _ _ _ _ _ _ _ _ _ _ _ _ _ ?k1 ?k2 ?k3 ?k4 ?k5 ?k6 ?k7 ?k8 ?_); (case k4 => k_asm); (case k1 => k_asm); (case k2 => k_asm); (case k3 => k_asm); (case k5 => k_asm); (case k6 => exact rfl); (case k7 => ktr_room); (case k8 => ktr_units))
      rintro r9 nw9 h9 tk9 ⟨t9, rfl, rfl⟩ F9 N9
      try k_fold
      k_steps
      unfold Stop
      (k_dflt (refine' (ch_none w _ _ _ _ _ hk5 hsh _ _ _) _ _ _ _ _ _ _ _ _ _ _ _ _ _ _ _ _ ?k1 ?k2 ?k3 ?k4 ?k5 ?k6 ?k7 ?k8 ?_); (case k4 => k_asm); (case k1 => k_asm); (case k2 => k_asm); (case k3 => k_asm); (case k5 => k_asm); (case k6 => exact rfl); (case k7 => ktr_room); (case k8 => ktr_units))
      rintro r9 nw9 h9 tk9 ⟨rfl, rfl⟩ F9 N9
      try k_fold
      k_steps
      rename Fr _ _ _ _ => kF; rename News _ _ _ _ => kN
      exact ⟨_, _, _, _, _, _, rfl, kF, News.sub kN fun q hq => .tail _ hq⟩
  intro s9 hp9
  dsimp only [List.drop]
  clear lF lN
  obtain ⟨hC, tkC, WW, DD, tw, td, rfl, lF, lN⟩ := hp9
  try k_fold
  refine cutF lF 1 (PD s1 ((a2, W.listOf #[.ref a1, .int b tb, .int c tc] n2) :: (a1, W.listOf vs.toArray n1) :: [(s1.heap.objs.size + 1 + 1 + 1 + 1, om), (s1.heap.objs.size + 1 + 1 + 1, on), (s1.heap.objs.size + 1 + 1, oo), (s1.heap.objs.size + 1, os)])) ?_ ?_
  · dsimp only [List.take]
    k_steps
    · have hnl : (mk (newL k sh)).length ≤ 100 := by rw [← cl_len]; exact Nat.le_trans (Nat.le_of_eq (new_len _ hk5 _ hsh)) (by omega)
      refine wpAny_Try_except ?_
      k_steps
      unfold Stop
      (k_dflt (refine' (ch_raise w _ _ _ _ _ hk5 hsh (slice_new _ hk5 _ hsh) _ _ _ _) _ _ _ _ _ _ _ _ _ _ _ _ _ _ _ _ _ ?k1 ?k2 ?k3 ?k4 ?k5 ?k6 ?k7 ?k8 ?_); (case k4 => k_asm); (case k1 => k_asm); (case k2 => k_asm); (case k3 => k_asm); (case k5 => k_asm); (case k6 => exact rfl); (case k7 => ktr_room); (case k8 => ktr_units))
      intro e9 dx9 oD9 tm9 g9 h9 tk9 F9 U9 hM9 hT9
      rename Frag.In _ _ => lX
      obtain ⟨mN9, mD9, R9⟩ := refP_in lX
      refine caught_C (h₀ := s1.heap) (below_caller _) rfl hT9 F9 U9 R9 ?_ ?_
      · intro h5 Q5 E5 F5 hq5
        clear F9
        try k_fold
        k_steps
        exact hq5
      · intro h6 oe6 vs6 E16 E26 F6 N6 hcl6 hdd6 hda6
        clear F9 hT9 U9
        try k_fold
        k_steps
        rename Fr _ _ _ _ => kF; rename News _ _ _ _ => kN
        refine load_msg (R9.r.keeps kF.keep) R9.n1 R9.d1 R9.n3 R9.d3 R9.n4 R9.d4 (kN _ (.head _)).1 hcl6 hda6 hdd6 (hM9 _ (kN _ (.tail _ (.head _))).1) (if_pos rfl) ?_
        intro tk8
        k_steps
        rename Fr _ _ _ _ => kF; rename News _ _ _ _ => kN
        refine goes_C kF kN (by rfl) (by rfl) ?_
        intro h8 v8 F8 N8
        clear kF kN
        k_steps
        exact ⟨_, _, v8, rfl, fr_again F8, News.sub N8 fun q hq => .tail _ (.tail _ hq)⟩
    · rename Fr _ _ _ _ => kF; rename News _ _ _ _ => kN
      exact ⟨_, _, _, rfl, fr_same (Str.ofString "error") kF, kN⟩
  intro s9 hp9
  dsimp only [List.drop]
  clear lF lN
  obtain ⟨hD, tkD, vErr, rfl, lF, lN⟩ := hp9
  try k_fold
  refine cutF lF 7 (PE s1 l a1 a2 [(s1.heap.objs.size + 1 + 1 + 1 + 1, om), (s1.heap.objs.size + 1 + 1 + 1, on), (s1.heap.objs.size + 1 + 1, oo), (s1.heap.objs.size + 1, os)]) ?_ ?_
  · dsimp only [List.take]
    k_steps
    unfold Stop
    (k_dflt (refine' (rv1 w _ _ _ _ _ hll _ _) _ _ _ _ _ _ _ _ _ _ _ _ _ _ _ _ _ ?k1 ?k2 ?k3 ?k4 ?k5 ?k6 ?k7 ?k8 ?_); (case k4 => k_asm); (case k1 => k_asm); (case k2 => k_asm); (case k3 => k_asm); (case k5 => k_asm); (case k6 => exact rfl); (case k7 => ktr_room); (case k8 => ktr_units))
    rintro r9 nw9 h9 tk9 ⟨t9, rfl, rfl⟩ F9 N9
    try k_fold
    k_steps
    unfold Stop
    (k_dflt (refine' (rv2 w _ _ _ _ _ hll _ _) _ _ _ _ _ _ _ _ _ _ _ _ _ _ _ _ _ ?k1 ?k2 ?k3 ?k4 ?k5 ?k6 ?k7 ?k8 ?_); (case k4 => k_asm); (case k1 => k_asm); (case k2 => k_asm); (case k3 => k_asm); (case k5 => k_asm); (case k6 => exact rfl); (case k7 => ktr_room); (case k8 => ktr_units))
    rintro r9 nw9 h9 tk9 ⟨t9, rfl, rfl⟩ F9 N9
    try k_fold
    k_steps
    unfold Stop
    (k_dflt (refine' (rvQ w _ _ _ _ _ hll _ _) _ _ _ _ _ _ _ _ _ _ _ _ _ _ _ _ _ ?k1 ?k2 ?k3 ?k4 ?k5 ?k6 ?k7 ?k8 ?_); (case k4 => k_asm); (case k1 => k_asm); (case k2 => k_asm); (case k3 => k_asm); (case k5 => k_asm); (case k6 => exact rfl); (case k7 => ktr_room); (case k8 => ktr_units))
    rintro r9 nw9 h9 tk9 ⟨x9, t9, rfl, hx9, hq9, rfl⟩ F9 N9
    try k_fold
    k_steps
    unfold Stop
    k_caught0
    rename Nat => f
    rename (f : Int) < _ => hf9
    have hf8 : f < l.length + 2 := by rw [← cl_len (mk l)] at hf9; change (f : Int) < (l.length : Int) + 2 at hf9; omega
    k_steps
    unfold Stop
    (k_dflt (refine' (sub_I w _ _ _ _ _ (Nat.le_trans hll (by decide)) 1 f rfl rfl (by decide) (by omega) _ _ _ _) _ _ _ _ _ _ _ _ _ _ _ _ _ _ _ _ _ ?k1 ?k2 ?k3 ?k4 ?k5 ?k6 ?k7 ?k8 ?_); (case k4 => k_asm); (case k1 => k_asm); (case k2 => k_asm); (case k3 => k_asm); (case k5 => k_asm); (case k6 => exact rfl); (case k7 => ktr_room); (case k8 => ktr_units))
    rintro r9 nw9 h9 tk9 ⟨t9, rfl, rfl⟩ F9 N9
    try k_fold
    k_steps
    unfold Stop
    (k_dflt (refine' (sub_I w _ _ _ _ _ (Nat.le_trans hll (by decide)) (f + 1) l.length rfl rfl (by omega) (by omega) _ _ _ _) _ _ _ _ _ _ _ _ _ _ _ _ _ _ _ _ _ ?k1 ?k2 ?k3 ?k4 ?k5 ?k6 ?k7 ?k8 ?_); (case k4 => k_asm); (case k1 => k_asm); (case k2 => k_asm); (case k3 => k_asm); (case k5 => k_asm); (case k6 => exact rfl); (case k7 => ktr_room); (case k8 => ktr_units))
    rintro r9 nw9 h9 tk9 ⟨t9, rfl, rfl⟩ F9 N9
    try k_fold
    k_steps
    refine PyProof.Rows.add_str (fun t' tk => ?_) (sub_sz hll _ _ _ _)
    rw [sub_glue]
    k_steps
    unfold Stop
    k_caught0
    rename Nat => g
    rename (g : Int) < _ => hg9
    have hg8 : g < l.length + 3 := by rw [← cl_len (mk l)] at hg9; change (g : Int) < (l.length : Int) + 3 at hg9; omega
    k_steps
    unfold Stop
    (k_dflt (refine' (sub_I w _ _ _ _ _ (Nat.le_trans hll (by decide)) f g rfl rfl (by omega) (by omega) _ _ _ _) _ _ _ _ _ _ _ _ _ _ _ _ _ _ _ _ _ ?k1 ?k2 ?k3 ?k4 ?k5 ?k6 ?k7 ?k8 ?_); (case k4 => k_asm); (case k1 => k_asm); (case k2 => k_asm); (case k3 => k_asm); (case k5 => k_asm); (case k6 => exact rfl); (case k7 => ktr_room); (case k8 => ktr_units))
    rintro r9 nw9 h9 tk9 ⟨t9, rfl, rfl⟩ F9 N9
    try k_fold
    k_steps
    unfold Stop
    (k_dflt (refine' (asg_piece w _ _ _ _ _ hll f g rfl rfl (by omega) (by omega) _ _ _ _ _) _ _ _ _ _ _ _ _ _ _ _ _ _ _ _ _ _ ?k1 ?k2 ?k3 ?k4 ?k5 ?k6 ?k7 ?k8 ?_); (case k4 => k_asm); (case k1 => k_asm); (case k2 => k_asm); (case k3 => k_asm); (case k5 => k_asm); (case k6 => exact rfl); (case k7 => ktr_room); (case k8 => ktr_units))
    rintro r9 nw9 h9 tk9 ⟨t9, rfl, rfl⟩ F9 N9
    try k_fold
    k_steps
    unfold Stop
    (k_dflt (refine' (asgn_c w _ _ _ _ _ _ _ f g _ _ _) _ _ _ _ _ _ _ _ _ _ _ _ _ _ _ _ _ ?k1 ?k2 ?k3 ?k4 ?k5 ?k6 ?k7 ?k8 ?_); (case k4 => k_asm); (case k1 => k_asm); (case k2 => k_asm); (case k3 => k_asm); (case k5 => k_asm); (case k6 => exact rfl); (case k7 => ktr_room); (case k8 => ktr_units))
    rintro r9 nw9 h9 tk9 ⟨rfl, rfl⟩ F9 N9
    try k_fold
    k_steps
    rename Fr _ _ _ _ => kF; rename News _ _ _ _ => kN
    exact ⟨_, _, f, g, _, _, _, _, _, rfl, hf8, hg8, ⟨_, _, _, _, _, _, _, _, by assumption, by assumption, by assumption, by assumption, by assumption, rfl⟩, kF, kN⟩
  intro s9 hp9
  dsimp only [List.drop]
  clear lF lN hb hc hc2 hI hl9
  obtain ⟨hE, tkE, f, g, tS, tF, tL, tP, nw, rfl, hf8, hg8, hS, lF, lN⟩ := hp9
  obtain ⟨b, c, tb, tc, n1, n2, vs, ns, hb, hc, hc2, hI, hl9, rfl⟩ := hS
  try k_fold
  refine cutF lF 1 (PF s1 ((a2, W.listOf #[.ref a1, .int b tb, .int c tc] n2) :: (a1, W.listOf vs.toArray n1) :: [(s1.heap.objs.size + 1 + 1 + 1 + 1, om), (s1.heap.objs.size + 1 + 1 + 1, on), (s1.heap.objs.size + 1 + 1, oo), (s1.heap.objs.size + 1, os)])) ?_ ?_
  · dsimp only [List.take]
    k_steps
    · unfold Stop
      (k_dflt (refine' (asg_Q w _ _ _ _ _ hll f g rfl rfl (by omega) (by omega) (by omega) _ _ _ _ _) _ _ _ _ _ _ _ _ _ _ _ _ _ _ _ _ _ ?k1 ?k2 ?k3 ?k4 ?k5 ?k6 ?k7 ?k8 ?_); (case k4 => k_asm); (case k1 => k_asm); (case k2 => k_asm); (case k3 => k_asm); (case k5 => k_asm); (case k6 => exact rfl); (case k7 => ktr_room); (case k8 => ktr_units))
      rintro r9 nw9 h9 tk9 ⟨t9, rfl, rfl⟩ F9 N9
      try k_fold
      k_steps
      unfold Stop
      (k_dflt (refine' (sub_Q w _ _ _ _ _ hll f g rfl rfl (by omega) (by omega) (by omega) rfl _ _ _ _) _ _ _ _ _ _ _ _ _ _ _ _ _ _ _ _ _ ?k1 ?k2 ?k3 ?k4 ?k5 ?k6 ?k7 ?k8 ?_); (case k4 => k_asm); (case k1 => k_asm); (case k2 => k_asm); (case k3 => k_asm); (case k5 => k_asm); (case k6 => exact rfl); (case k7 => ktr_room); (case k8 => ktr_units))
      rintro r9 nw9 h9 tk9 ⟨t9, rfl, rfl⟩ F9 N9
      try k_fold
      k_steps
      rename Fr _ _ _ _ => kF; rename News _ _ _ _ => kN; exact ⟨_, _, rfl, kF, kN⟩
    all_goals (rename Fr _ _ _ _ => kF; rename News _ _ _ _ => kN; exact ⟨_, _, rfl, kF, kN⟩)
  intro s9 hp9
  dsimp only [List.drop]
  clear lF lN
  obtain ⟨hF, tkF, rfl, lF, lN⟩ := hp9
  try k_fold
  refine cutF lF 1 (PG s1) ?_ ?_
  · dsimp only [List.take]
    k_steps
    unfold Stop
    rename News _ _ _ _ => lN
    have lN2 := reordM lN
    clear lN
    k_dflt (refine' (take_c w _ _ _ _ _ _ _ _ _ _ _ _ _ _ _ _ _ _ ?q1 ?q2 ?q3 ?q4 ?q5 ?q6 ?q7 ?q8 ?q9 ?q10) _ _ _ _ _ _ _ _ _ _ _ _ _ _ _ _ _ ?k1 ?k2 ?k3 ?k4 ?k5 ?k6 ?k7 ?k8 ?_)
    case k4 => exact lN2
    case k1 => k_asm
    case k2 => k_asm
    case k3 => k_asm
    case k5 => k_asm
    case k6 => exact rfl
    case k7 => ktr_room
    case k8 => ktr_units
    case q1 => omega
    case q4 => assumption
    case q2 => (simp only [List.forall_mem_cons, List.not_mem_nil, false_imp_iff, implies_true, and_true]; refine ⟨Ne.symm (Nat.ne_of_lt (by omega)), ?_, ?_, ?_, ?_⟩ <;> exact Nat.ne_of_lt (by omega))
    case q3 => (simp only [List.forall_mem_cons, List.not_mem_nil, false_imp_iff, implies_true, and_true]; refine ⟨Ne.symm (Nat.ne_of_lt (by omega)), ?_, ?_, ?_, ?_⟩ <;> exact Nat.ne_of_lt (by omega))
    case q5 => assumption
    case q6 => assumption
    case q7 => assumption
    case q8 => assumption
    case q9 => decide
    case q10 => decide
    intro r7 nw7 h7 tk7 hp7 F7 N7
    obtain ⟨x7, t7, rfl, x70, x71, hS7⟩ := takePost_src hp7
    obtain ⟨b7, c7, tb7, tc7, n17, n27, vs7, ns7, hb7, hc7, hc27, hI7, hl7, rfl⟩ := id hS7
    clear hp7 lN2
    obtain ⟨x6, rfl⟩ : ∃ k : Nat, x7 = k := ⟨x7.toNat, by omega⟩
    try k_fold
    have hx6 : x6 < 4 := by omega
    k_steps
    all_goals (rename Fr _ _ _ _ => kF; rename News _ _ _ _ => kN)
    · exact ⟨_, _, _, _, _, rfl, List.Mem.head _, by assumption, kF, News.sub kN fun q hq => by rw [List.mem_singleton.mp hq]; exact .tail _ (.tail _ (.tail _ (.head _)))⟩
    · exact ⟨_, _, _, _, _, rfl, .tail _ (.head _), by assumption, kF, News.sub kN fun q hq => by rw [List.mem_singleton.mp hq]; exact .tail _ (.tail _ (.tail _ (.head _)))⟩
    · exact ⟨_, _, _, _, _, rfl, .tail _ (.tail _ (.head _)), by assumption, kF, News.sub kN fun q hq => by rw [List.mem_singleton.mp hq]; exact .tail _ (.tail _ (.tail _ (.head _)))⟩
    · exact ⟨_, _, _, _, _, rfl, .tail _ (.tail _ (.tail _ (.head _))), by assumption, kF, News.sub kN fun q hq => by rw [List.mem_singleton.mp hq]; exact .tail _ (.tail _ (.tail _ (.head _)))⟩
  intro s9 hp9
  dsimp only [List.drop]
  clear lF lN hm hn ho hs hb hc hc2 hI hl9 hlt1 hlt2
  obtain ⟨hG, tkG, M, tM, om, rfl, hM, hm, lF, lN⟩ := hp9
  obtain ⟨hM2, hM1, hM0, hMe, hMk⟩ := marks_len M hM
  try k_fold
  refine cutF lF 3 (PH s1 M om) ?_ ?_
  · dsimp only [List.take]
    k_steps
    unfold Stop
    (k_dflt (refine' (split_c w _ _ _ _ _ (mk l) M _ _ _ hll2 hM0 hMe) _ _ _ _ _ _ _ _ _ _ _ _ _ _ _ _ _ ?k1 ?k2 ?k3 ?k4 ?k5 ?k6 ?k7 ?k8 ?_); (case k4 => k_asm); (case k1 => k_asm); (case k2 => k_asm); (case k3 => k_asm); (case k5 => k_asm); (case k6 => exact rfl); (case k7 => ktr_room); (case k8 => ktr_units))
    rintro r9 nw9 h9 tk9 ⟨a9, vs9, n9, rfl, hv9, rfl⟩ F9 N9
    try k_fold
    k_steps
    obtain ⟨hwl, hws⟩ := trim_weight (x := mk l) (y := M) hll2 hM1
    have hfr : ∀ p ∈ trimL (Txt.split (mk l) M), Builtin.Str.occurrences p M 0 p.length 1 = [] := fun p hp => split_freeG (mk l) M hM1 hMk p (trim_mem hp)
    rename News _ _ _ _ => kN
    refine join_ws kN (.head _) hv9 hM2 hwl hws ?_
    intro t8 k8
    rcases glue_split (mk l) M with hg | hg
    · rw [hg]
      clear hg
      k_steps
      all_goals (rename Fr _ _ _ _ => kF; rename News _ _ _ _ => kN)
      all_goals exact ⟨_, _, a9, n9, vs9, _, _, _, rfl, hv9, hfr, hwl, kF, kN⟩
    · generalize Str.join M (trimL (Txt.split (mk l) M)) = J at hg
      k_steps
      · refine PyProof.Rows.add_str (fun t' tk => ?_) (glue_sz hll2 hg)
        rw [hg]
        k_steps
        all_goals (rename Fr _ _ _ _ => kF; rename News _ _ _ _ => kN)
        all_goals exact ⟨_, _, a9, n9, vs9, _, _, _, rfl, hv9, hfr, hwl, kF, kN⟩
      all_goals (rename Fr _ _ _ _ => kF; rename News _ _ _ _ => kN)
      all_goals exact ⟨_, _, a9, n9, vs9, _, _, _, rfl, hv9, hfr, hwl, kF, kN⟩
  intro s9 hp9
  dsimp only [List.drop]
  clear lF lN
  obtain ⟨hH, tkH, a, n, vs, ws, G, tG, rfl, hv, hfr, hwl, lF, lN⟩ := hp9
  try k_fold
  k_steps
  unfold Stop
  rename Fr _ _ _ _ => kF
  k_dflt (refine LCg.ListComp_U kF (by with_unfolding_all rfl) (by decide) (by rfl) (by decide) (by rfl) ?_)
  k_steps
  unfold Stop
  rename Fr _ _ _ _ => kF; rename News _ _ _ _ => kN
  refine LCg.CompSrc.ledger (by rfl) kF kN (.head _) (by rw [sizeLine_eq, List.size_toArray, StrsAre.length hv]; omega) ?_
  intro g9
  refine compRest_inv (Inv := fun i ys news => ys.length = i ∧ (∀ y ∈ ys, y = .bool false) ∧ news = [(a, W.listOf vs.toArray n), (s1.heap.objs.size + 1 + 1 + 1 + 1, om)]) ?_ ?_ vs.toArray.size 0 [] _ (Nat.zero_add _) ⟨rfl, fun _ h => (List.not_mem_nil h).elim, rfl⟩
  · clear kF kN
    intro i v I oI C oC D m₂ ys news h tk E' hi hP hI hC hx F N off ne
    obtain ⟨hy1, hy2, rfl⟩ := hI
    obtain ⟨p, tp, rfl, hp⟩ := strs_at hv (by simpa using hP)
    have hfp := hfr p hp
    have off0 := off
    simp only [LCg.Off3] at off
    try k_fold
    k_steps
    unfold Stop
    rw [hfp]
    exact LCg.CompEnd.intro F N _ (fun p hp => hp) off0 (Or.inr ⟨_, .head _, rfl, _, rfl⟩) ⟨by rw [List.length_append, hy1]; rfl, fun y hy => (List.mem_append.mp hy).elim (hy2 y) fun h => by rw [List.mem_singleton.mp h]; rfl, rfl⟩
  · rintro ys news ⟨hy1, hy2, rfl⟩
    clear kF kN
    k_steps
    rename News _ _ _ _ => kN
    refine notin_bools kN (.head _) hy2 ?_
    k_steps
    unfold Stop
    (k_dflt (refine' (split_e w _ _ _ _ _ (mk l) (Str.ofString "") _ _ _ hll2 (by decide +kernel)) _ _ _ _ _ _ _ _ _ _ _ _ _ _ _ _ _ ?k1 ?k2 ?k3 ?k4 ?k5 ?k6 ?k7 ?k8 ?_); (case k4 => k_asm); (case k1 => k_asm); (case k2 => k_asm); (case k3 => k_asm); (case k5 => k_asm); (case k6 => exact rfl); (case k7 => ktr_room); (case k8 => ktr_units))
    rintro r9 nw9 h9 tk9 ⟨a9, vs9, n9, rfl, hv9, rfl⟩ F9 N9
    try k_fold
    k_steps
    unfold Stop
    rename Heap.IsList _ _ _ => hL9
    rename CarriedAll _ _ => hC
    have hS := CarriedAll.strsOf (f := fun x => x) hC
    rw [List.map_id'] at hS
    rename News _ _ _ _ => kN9
    show wpAny _ _ (compareOp _ _ _) _ _ _
    refine eq_strs kN9 (.head _) hL9 hv9 hS (by have hcL9 := cLine_is; (simp only [units_in1, units_deeper, Around.mark_units, units_caller]); (try dsimp only [ktrTop]); omega) ?_
    k_steps)
end Mine
end
theorem PySem.Challenge.cw_pq1312_01_holds : PySem.Challenge.rw_pq1312_01.Holds :=
  Mine.law_holds
