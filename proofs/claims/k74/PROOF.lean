import PyProof.Rows.All
import Wide.All
import OpenK.AllK
import Wide.FinOn
import HandS.ForMost
import HandS.Wide
import HandS.IsInst
import HandS.SortInts
import HandS.Deep
import HandS.Evl
import PySem.Challenge.RW_shapewright_k74_words_that_are_reached
set_option Elab.async false
set_option maxRecDepth 100000
set_option linter.all false
set_option maxHeartbeats 4000000
namespace K74
open PySem L2
theorem ixl {X : Cx} {K : PySem.W.Frag} (h : X.K = K) : IxR X (rIxL K) := by
  subst h
  exact ix_list
theorem ixt {X : Cx} {K : PySem.W.Frag} (h : X.K = K) : IxR X (rIxT K) := by
  subst h
  exact ix_tup
theorem hu65 {k : Nat} {A : Around} (hr : Room k A) : A.units + 65 < cLine := by
  have := hr.un
  omega
def topS (i : Nat) : Stmt := PySem.Challenge.pw_shapewright_k74_words_that_are_reached.main.body.getD i (.Pass ⟨0, 0, 0, 0⟩)
abbrev s_is_block : Stmt := topS 2
abbrev N_is_block : List Str := ["word"]
theorem sc_is_block : FnScope N_is_block ["word"] (defScope s_is_block) := ⟨rfl, rfl, rfl, by decide +kernel, rfl, by decide +kernel, by decide +kernel⟩
abbrev s_copy_block : Stmt := topS 4
abbrev N_copy_block : List Str := ["words", "address", "space", "moved"]
theorem sc_copy_block : FnScope N_copy_block ["words", "address", "space", "moved"] (defScope s_copy_block) := ⟨rfl, rfl, rfl, by decide +kernel, rfl, by decide +kernel, by decide +kernel⟩
abbrev s_move_word : Stmt := topS 5
abbrev N_move_word : List Str := ["words", "word", "space", "moved"]
theorem sc_move_word : FnScope N_move_word ["words", "word", "space", "moved"] (defScope s_move_word) := ⟨rfl, rfl, rfl, by decide +kernel, rfl, by decide +kernel, by decide +kernel⟩
abbrev s_collect : Stmt := topS 6
abbrev N_collect : List Str := ["words", "roots", "space", "moved", "new_roots", "at", "count", "i", "word"]
theorem sc_collect : FnScope N_collect ["words", "roots"] (defScope s_collect) := ⟨rfl, rfl, rfl, by decide +kernel, rfl, by decide +kernel, by decide +kernel⟩
abbrev s_reachable : Stmt := topS 7
abbrev N_reachable : List Str := ["words", "roots", "seen", "total", "todo", "word", "at"]
theorem sc_reachable : FnScope N_reachable ["words", "roots"] (defScope s_reachable) := ⟨rfl, rfl, rfl, by decide +kernel, rfl, by decide +kernel, by decide +kernel⟩
abbrev s__law_same : Stmt := topS 9
abbrev N__law_same : List Str := ["a", "b", "k", "key"]
theorem sc__law_same : FnScope N__law_same ["a", "b"] (defScope s__law_same) := ⟨rfl, rfl, rfl, by decide +kernel, rfl, by decide +kernel, by decide +kernel⟩
abbrev s__law_mix : Stmt := topS 10
abbrev N__law_mix : List Str := ["number"]
theorem sc__law_mix : FnScope N__law_mix ["number"] (defScope s__law_mix) := ⟨rfl, rfl, rfl, by decide +kernel, rfl, by decide +kernel, by decide +kernel⟩
abbrev s__law_tape : Stmt := topS 11
abbrev N__law_tape : List Str := ["script", "budget"]
theorem sc__law_tape : FnScope N__law_tape ["script", "budget"] (defScope s__law_tape) := ⟨rfl, rfl, rfl, by decide +kernel, rfl, by decide +kernel, by decide +kernel⟩
abbrev s__law_take : Stmt := topS 12
abbrev N__law_take : List Str := ["tape", "many", "cell", "digit"]
theorem sc__law_take : FnScope N__law_take ["tape", "many"] (defScope s__law_take) := ⟨rfl, rfl, rfl, by decide +kernel, rfl, by decide +kernel, by decide +kernel⟩
abbrev s__law_words : Stmt := topS 13
abbrev N__law_words : List Str := ["tape", "words", "blocks", "k", "count", "i", "at"]
theorem sc__law_words : FnScope N__law_words ["tape"] (defScope s__law_words) := ⟨rfl, rfl, rfl, by decide +kernel, rfl, by decide +kernel, by decide +kernel⟩
abbrev s__law_word : Stmt := topS 14
abbrev N__law_word : List Str := ["tape", "blocks", "draw"]
theorem sc__law_word : FnScope N__law_word ["tape", "blocks"] (defScope s__law_word) := ⟨rfl, rfl, rfl, by decide +kernel, rfl, by decide +kernel, by decide +kernel⟩
abbrev s__law_live : Stmt := topS 15
abbrev N__law_live : List Str := ["words", "roots", "seen", "todo", "word", "at"]
theorem sc__law_live : FnScope N__law_live ["words", "roots"] (defScope s__law_live) := ⟨rfl, rfl, rfl, by decide +kernel, rfl, by decide +kernel, by decide +kernel⟩
abbrev s_law : Stmt := topS 16
abbrev N_law : List Str := ["script", "tape", "words", "blocks", "roots", "due", "given", "handed", "told", "space", "moved", "k", "word"]
theorem sc_law : FnScope N_law ["script"] (defScope s_law) := ⟨rfl, rfl, rfl, by decide +kernel, rfl, by decide +kernel, by decide +kernel⟩
structure Adr where
  f_is_block : Addr
  d_is_block : FuncData
  f_copy_block : Addr
  d_copy_block : FuncData
  f_move_word : Addr
  d_move_word : FuncData
  f_collect : Addr
  d_collect : FuncData
  f_reachable : Addr
  d_reachable : FuncData
  f__law_same : Addr
  d__law_same : FuncData
  f__law_mix : Addr
  d__law_mix : FuncData
  f__law_tape : Addr
  d__law_tape : FuncData
  f__law_take : Addr
  d__law_take : FuncData
  f__law_words : Addr
  d__law_words : FuncData
  f__law_word : Addr
  d__law_word : FuncData
  f__law_live : Addr
  d__law_live : FuncData
  f_law : Addr
  d_law : FuncData
  c_HEADER : Tok
structure Txt (K : PySem.W.Frag) (mg : Str → Option Value) (A : Adr) : Prop where
  F_is_block : Fun K "is_block" "is_block" s_is_block A.f_is_block A.d_is_block
  b_is_block : Binds K A.d_is_block ["word"] []
  g_is_block : mg "is_block" = some (.ref A.f_is_block)
  F_copy_block : Fun K "copy_block" "copy_block" s_copy_block A.f_copy_block A.d_copy_block
  b_copy_block : Binds K A.d_copy_block ["words", "address", "space", "moved"] []
  g_copy_block : mg "copy_block" = some (.ref A.f_copy_block)
  F_move_word : Fun K "move_word" "move_word" s_move_word A.f_move_word A.d_move_word
  b_move_word : Binds K A.d_move_word ["words", "word", "space", "moved"] []
  g_move_word : mg "move_word" = some (.ref A.f_move_word)
  F_collect : Fun K "collect" "collect" s_collect A.f_collect A.d_collect
  b_collect : Binds K A.d_collect ["words", "roots"] []
  g_collect : mg "collect" = some (.ref A.f_collect)
  F_reachable : Fun K "reachable" "reachable" s_reachable A.f_reachable A.d_reachable
  b_reachable : Binds K A.d_reachable ["words", "roots"] []
  g_reachable : mg "reachable" = some (.ref A.f_reachable)
  F__law_same : Fun K "_law_same" "_law_same" s__law_same A.f__law_same A.d__law_same
  b__law_same : Binds K A.d__law_same ["a", "b"] []
  g__law_same : mg "_law_same" = some (.ref A.f__law_same)
  F__law_mix : Fun K "_law_mix" "_law_mix" s__law_mix A.f__law_mix A.d__law_mix
  b__law_mix : Binds K A.d__law_mix ["number"] []
  g__law_mix : mg "_law_mix" = some (.ref A.f__law_mix)
  F__law_tape : Fun K "_law_tape" "_law_tape" s__law_tape A.f__law_tape A.d__law_tape
  b__law_tape : Binds K A.d__law_tape ["script", "budget"] []
  g__law_tape : mg "_law_tape" = some (.ref A.f__law_tape)
  F__law_take : Fun K "_law_take" "_law_take" s__law_take A.f__law_take A.d__law_take
  b__law_take : Binds K A.d__law_take ["tape", "many"] []
  g__law_take : mg "_law_take" = some (.ref A.f__law_take)
  F__law_words : Fun K "_law_words" "_law_words" s__law_words A.f__law_words A.d__law_words
  b__law_words : Binds K A.d__law_words ["tape"] []
  g__law_words : mg "_law_words" = some (.ref A.f__law_words)
  F__law_word : Fun K "_law_word" "_law_word" s__law_word A.f__law_word A.d__law_word
  b__law_word : Binds K A.d__law_word ["tape", "blocks"] []
  g__law_word : mg "_law_word" = some (.ref A.f__law_word)
  F__law_live : Fun K "_law_live" "_law_live" s__law_live A.f__law_live A.d__law_live
  b__law_live : Binds K A.d__law_live ["words", "roots"] []
  g__law_live : mg "_law_live" = some (.ref A.f__law_live)
  F_law : Fun K "law" "law" s_law A.f_law A.d_law
  b_law : Binds K A.d_law ["script"] []
  g_law : mg "law" = some (.ref A.f_law)
  g_HEADER : mg "HEADER" = some (.int 4 A.c_HEADER)
  n_all : mg "all" = none
  n_bool : mg "bool" = none
  n_dict : mg "dict" = none
  n_int : mg "int" = none
  n_isinstance : mg "isinstance" = none
  n_len : mg "len" = none
  n_list : mg "list" = none
  n_range : mg "range" = none
  n_str : mg "str" = none
  n_sum : mg "sum" = none
  n_tuple : mg "tuple" = none
end K74

set_option Elab.async false
set_option maxRecDepth 100000
set_option linter.all false
set_option maxHeartbeats 4000000
namespace K74
open PySem L2
section
variable {P : Program} {w : World} {K : PySem.W.Frag} {mg : Str → Option Value} {base : Heap} {A : Adr}
/-! ### small words -/
/-- all but t stands, and nothing is new -/
def But (t : Addr) (H H' : Hp) : Prop := ∀ a, a ≠ t → H' a = H a
theorem But.refl {t : Addr} {H : Hp} : But t H H := fun _ _ => rfl
theorem But.trans {t : Addr} {H H1 H2 : Hp} (a : But t H H1) (b : But t H1 H2) : But t H H2 := fun x n => (b x n).trans (a x n)
theorem But.upd {t : Addr} {H : Hp} {o : HO} : But t H (upd H t o) := fun a n => upd_ne n
theorem at_int {ns : List Int} {p : Int} (h0 : 0 ≤ p) (h1 : p < ((ns.map V.int).length : Int)) : ∃ c : Int, atI (ns.map V.int) p = some (.int c) := by
  rw [List.length_map] at h1
  have hk : p.toNat < ns.length := by omega
  have e : p = ((p.toNat : Nat) : Int) := by omega
  have q : atI (ns.map V.int) ((p.toNat : Nat) : Int) = some (.int ns[p.toNat]) := atI_nat (by rw [List.getElem?_map, List.getElem?_eq_getElem hk] <;> rfl)
  rw [← e] at q
  exact ⟨_, q⟩
/-! ### the tape -/
def TapeAt (H : Hp) (t s : Addr) : Prop := ∃ (ns : List Int) (p d m b : Int), H t = some (.lst [.ref s, .int p, .int d, .int m, .int b]) ∧ H s = some (.lst (ns.map V.int)) ∧ 0 ≤ p ∧ 0 ≤ d ∧ 0 ≤ m
theorem TapeAt.ne {H : Hp} {t s : Addr} (h : TapeAt H t s) : s ≠ t := by
  obtain ⟨ns, p, d, m, b, h1, h2, _⟩ := h
  refine ne_of h2 h1 fun e => ?_
  cases ns with
  | nil => cases e
  | cons x r => cases e
theorem TapeAt.keep {H H' : Hp} {t s : Addr} (h : TapeAt H t s) (k : ∀ a o, H a = some o → (a = t ∨ a = s) → H' a = some o) : TapeAt H' t s := by
  obtain ⟨ns, p, d, m, b, h1, h2, h3⟩ := h
  exact ⟨ns, p, d, m, b, k _ _ h1 (.inl rfl), k _ _ h2 (.inr rfl), h3⟩
def spMix : Sp := fun vs H Q _ => ∃ n : Int, vs = [.int n] ∧ ∀ r : Int, 0 ≤ r → Q (.int r) H
theorem ok__law_mix (T : Txt K mg A) : FnOk P w K mg base CX0 1 A.f__law_mix A.d__law_mix ["number"] spMix := by
  refine T.F__law_mix.ok sc__law_mix (fun vs H Q E h => ?_) (fun cdv Ar outer s H vs Q E hr h => ?_)
  · obtain ⟨n, rfl, _⟩ := h
    rfl
  · obtain ⟨n, rfl, k⟩ := h
    refine ⟨_, (pss_cons (ps_set (i := 0) sc__law_mix.nd rfl (Or.inl rfl) (pe_op op_mod (pe_callTy call_int1 (by rfl) T.n_int (by decide +kernel) (pa_cons (pe_op op_add (pe_op op_mul (pv 0) pe_int) pe_int) pa_nil)) pe_int)) (pss_one (ps_ret (pe_op op_mod (pe_callTy call_int1 (by rfl) T.n_int (by decide +kernel) (pa_cons (pe_op op_add (pe_op op_fdivW (pe_op op_mul (pv 0) (pv 0)) pe_int) (pe_op op_mul (pv 0) pe_int)) pa_nil)) pe_int)))), ?_⟩
    refine ⟨_, rfl, _, _, rfl, rfl, .inr ⟨by decide, by decide⟩, _, _, rfl, rfl, .inl ⟨_, rfl, _, _, rfl, rfl, (show (0 : Int) < 18446744073709551616 by decide), ?_⟩⟩
    have h0 := Int.emod_nonneg (n * 6364136223846793005 + 1442695040888963407) (show (18446744073709551616 : Int) ≠ 0 by decide)
    have h1 := Int.emod_lt_of_pos (n * 6364136223846793005 + 1442695040888963407) (show (0 : Int) < 18446744073709551616 by decide)
    refine ⟨_, rfl, _, rfl, _, _, rfl, rfl, .inl ⟨?_, ?_⟩, _, _, rfl, rfl, ⟨by decide, by decide⟩, _, rfl, _, _, rfl, rfl, .inr ⟨by decide, by decide⟩, _, _, rfl, rfl, .inl ⟨_, rfl, _, _, rfl, rfl, (show (0 : Int) < 18446744073709551557 by decide), ?_⟩⟩
    · show -(2 ^ 64) < (n * 6364136223846793005 + 1442695040888963407) % 18446744073709551616
      omega
    · show (n * 6364136223846793005 + 1442695040888963407) % 18446744073709551616 < 2 ^ 64
      omega
    · exact k _ (Int.emod_nonneg _ (by decide))
def spTape (K : PySem.W.Frag) : Sp := fun vs H Q _ => ∃ (a : Addr) (ns : List Int) (b : Int), vs = [.ref a, .int b] ∧ SqL K H a (ns.map V.int) ∧
  ∀ (t s : Addr) (H' : Hp), H t = none → H s = none → Same H H' → TapeAt H' t s → Q (.ref t) H'
theorem ok__law_tape (T : Txt K mg A) : FnOk P w K mg base CX0 1 A.f__law_tape A.d__law_tape ["script", "budget"] (spTape K) := by
  refine T.F__law_tape.ok sc__law_tape (fun vs H Q E h => ?_) (fun cdv Ar outer s H vs Q E hr h => ?_)
  · obtain ⟨a, ns, b, rfl, _⟩ := h
    rfl
  · obtain ⟨a, ns, b, rfl, hS, k⟩ := h
    refine ⟨_, (pss_one (ps_ret (pe_lst (pa_cons (pe_callTy call_list_of (by rfl) T.n_list (by decide +kernel) (pa_cons (pv 0) pa_nil)) (pa_cons pe_int (pa_cons pe_int (pa_cons pe_int (pa_cons (pv 1) pa_nil)))))))), ?_⟩
    refine ⟨_, rfl, a, _, rfl, .inl hS, fun l hl => ⟨_, rfl, (by show 5 ≤ sizeLine; decide), fun t ht => ?_⟩⟩
    have nlt : l ≠ t := ne_of_none upd_same ht
    have ht0 : H t = none := by
      rw [upd_ne nlt.symm] at ht
      exact ht
    refine k t l _ ht0 hl (fun b o e => ?_) ⟨ns, 0, 0, 1, b, upd_same, ?_, by decide, by decide, by decide⟩
    · rw [upd_ne (ne_of_none e ht0), upd_ne (ne_of_none e hl)]
      exact e
    · rw [upd_ne nlt, upd_same]
def spTake : Sp := fun vs H Q _ => ∃ (t s : Addr) (many : Int), vs = [.ref t, .int many] ∧ 0 < many ∧ many < 1073741824 ∧ TapeAt H t s ∧
  ∀ (r : Int) (H' : Hp), 0 ≤ r → r < many → But t H H' → TapeAt H' t s → Q (.int r) H'
theorem ok__law_take (T : Txt K mg A) : FnOk P w K mg base CX0 2 A.f__law_take A.d__law_take ["tape", "many"] spTake := by
  have G__law_mix : FnOk P w K mg base CX0 1 A.f__law_mix A.d__law_mix _ _ := ok__law_mix T
  refine T.F__law_take.ok sc__law_take (fun vs H Q E h => ?_) (fun cdv Ar outer s H vs Q E hr h => ?_)
  · obtain ⟨t, s, many, rfl, _⟩ := h
    rfl
  · obtain ⟨t, s, many, rfl, hm0, hm1, hT, k⟩ := h
    have nst := hT.ne
    obtain ⟨ns, p, d, m, b, ht, hs, hp0, hd0, hmm⟩ := hT
    refine ⟨_, (Evl.pss_cut (ps_if (pt_cmpR op_lt (pe_ix (ixl (K := K) rfl) (pv 0) pe_int (fun _ _ => rfl)) (pv 1) (nomark _)) (pss_one (ps_if (pt_cmpR op_lt (pe_ix (ixl (K := K) rfl) (pv 0) pe_int (fun _ _ => rfl)) (pe_callB call_len_seq (by rfl) T.n_len PySem.boot_len (pa_cons (pe_ix (ixl (K := K) rfl) (pv 0) pe_int (fun _ _ => rfl)) pa_nil)) (nomark _)) (pss_cons (ps_set (i := 2) sc__law_take.nd rfl (Or.inl rfl) (pe_ix (ixl (K := K) rfl) (pe_ix (ixl (K := K) rfl) (pv 0) pe_int (fun _ _ => rfl)) (pe_ix (ixl (K := K) rfl) (pv 0) pe_int (fun _ _ => rfl)) (fun _ _ => rfl))) (Evl.pss_cut (ps_set (i := 2) sc__law_take.nd rfl (Or.inl rfl) (pe_ifExp (pt_cmpR op_ge (pv 2) pe_int (nomark _)) (pe_op op_mul pe_int (pv 2)) (pe_op op_sub (pe_op op_mul (pe_un un_neg pe_int) (pv 2)) pe_int))) (pss_cons (ps_asg (pe_op op_add (pe_ix (ixl (K := K) rfl) (pv 0) pe_int (fun _ _ => rfl)) pe_int) (pg_sub (pv 0) pe_int set_list)) (pss_cons (ps_asg (pe_call G__law_mix (hr.mono (by decide)) rfl T.g__law_mix T.F__law_mix.kp T.b__law_mix .nil pass0 (pa_cons (pe_op op_add (pe_ix (ixl (K := K) rfl) (pv 0) pe_int (fun _ _ => rfl)) (pv 2)) pa_nil)) (pg_sub (pv 0) pe_int set_list)) (pss_one (ps_asg (pe_ifExp (pt_cmpR op_ge (pv 2) (pe_op op_pow pe_int pe_int) (nomark _)) (pv 2) (pe_call G__law_mix (hr.mono (by decide)) rfl T.g__law_mix T.F__law_mix.kp T.b__law_mix .nil pass0 (pa_cons (pe_call G__law_mix (hr.mono (by decide)) rfl T.g__law_mix T.F__law_mix.kp T.b__law_mix .nil pass0 (pa_cons (pv 2) pa_nil)) pa_nil))) (pg_sub (pv 0) pe_int set_list))))))) (pss_cons (ps_asg (pe_call G__law_mix (hr.mono (by decide)) rfl T.g__law_mix T.F__law_mix.kp T.b__law_mix .nil pass0 (pa_cons (pe_op op_add (pe_ix (ixl (K := K) rfl) (pv 0) pe_int (fun _ _ => rfl)) pe_int) pa_nil)) (pg_sub (pv 0) pe_int set_list)) (pss_one (ps_asg (pe_ix (ixl (K := K) rfl) (pv 0) pe_int (fun _ _ => rfl)) (pg_sub (pv 0) pe_int set_list)))))) pss_nil) (pss_cons (ps_set (i := 3) sc__law_take.nd rfl (Or.inl rfl) (pe_op op_mod (pe_callTy call_int1 (by rfl) T.n_int (by decide +kernel) (pa_cons (pe_ix (ixl (K := K) rfl) (pv 0) pe_int (fun _ _ => rfl)) pa_nil)) (pv 1))) (pss_cons (ps_asg (pe_op op_fdiv (pe_ix (ixl (K := K) rfl) (pv 0) pe_int (fun _ _ => rfl)) (pv 1)) (pg_sub (pv 0) pe_int set_list)) (pss_one (ps_ret (pv 3)))))), ?_⟩
    refine ⟨fun σ' H' => ∃ (v2 v3 : Option V), σ' = [some (.ref t), some (.int many), v2, v3] ∧ But t H H' ∧ TapeAt H' t s, ?_, ?_⟩
    · refine ⟨_, rfl, t, _, _, _, rfl, rfl, SqL.of ht, rfl, _, rfl, _, _, rfl, rfl, _, rfl, ite2 (fun c => ?_) (fun c => ?_)⟩
      · refine ⟨_, rfl, t, _, _, _, rfl, rfl, SqL.of ht, rfl, _, rfl, t, _, _, _, rfl, rfl, SqL.of ht, rfl, s, _, rfl, .inl (SqL.of hs), _, _, rfl, rfl, _, rfl, ite2 (fun c2 => ?_) (fun c2 => ?_)⟩
        · obtain ⟨x, hx⟩ := at_int hp0 (of_decide_eq_true c2)
          refine ⟨_, rfl, t, _, _, _, rfl, rfl, SqL.of ht, rfl, _, rfl, t, _, _, _, rfl, rfl, SqL.of ht, rfl, s, _, _, _, rfl, rfl, SqL.of hs, hx, ?_⟩
          refine ⟨fun σ' H' => ∃ c : Int, 0 ≤ c ∧ σ' = [some (.ref t), some (.int many), some (.int c), none] ∧ H' = H, ?_, ?_⟩
          · refine ⟨_, rfl, _, _, rfl, rfl, _, rfl, ite2 (fun c3 => ?_) (fun c3 => ?_)⟩
            · refine ⟨_, rfl, _, _, rfl, rfl, .inl ⟨by decide, by decide⟩, 2 * x, ?_, rfl, rfl⟩
              have := of_decide_eq_true c3
              omega
            · refine ⟨_, rfl, _, rfl, _, _, rfl, rfl, .inl ⟨by decide, by decide⟩, _, _, rfl, rfl, -2 * x - 1, ?_, rfl, rfl⟩
              have := of_decide_eq_false (Bool.eq_false_iff.mpr c3)
              omega
          · rintro σ' H' ⟨c, hc0, rfl, rfl⟩
            refine ⟨_, rfl, t, _, _, _, rfl, rfl, SqL.of ht, rfl, _, _, rfl, rfl, _, rfl, t, _, _, 1, rfl, rfl, ht, rfl, ?_⟩
            refine ⟨_, rfl, t, _, _, _, rfl, rfl, SqL.of upd_same, rfl, _, rfl, _, _, rfl, rfl, _, rfl, fun r hr0 => ?_⟩
            refine ⟨_, rfl, t, _, _, 3, rfl, rfl, upd_same, rfl, ?_⟩
            refine ⟨_, rfl, _, _, rfl, rfl, ⟨by decide, by decide, by decide⟩, _, _, rfl, rfl, _, rfl, ite2 (fun c3 => ?_) (fun c3 => ?_)⟩
            · refine ⟨_, rfl, _, rfl, t, _, _, 2, rfl, rfl, upd_same, rfl, _, _, rfl, ?_, ns, p + 1, c, r, b, upd_same, ?_, by omega, hc0, hr0⟩
              · exact (But.upd.trans But.upd).trans But.upd
              · rw [upd_ne nst, upd_ne nst, upd_ne nst, hs]
            · refine ⟨_, rfl, _, rfl, fun r2 hr2 => ⟨_, rfl, fun r3 hr3 => ?_⟩⟩
              refine ⟨_, rfl, t, _, _, 2, rfl, rfl, upd_same, rfl, _, _, rfl, ?_, ns, p + 1, r3, r, b, upd_same, ?_, by omega, hr3, hr0⟩
              · exact (But.upd.trans But.upd).trans But.upd
              · rw [upd_ne nst, upd_ne nst, upd_ne nst, hs]
        · refine ⟨_, rfl, t, _, _, _, rfl, rfl, SqL.of ht, rfl, _, _, rfl, rfl, _, rfl, fun r hr0 => ?_⟩
          refine ⟨_, rfl, t, _, _, 3, rfl, rfl, ht, rfl, ?_⟩
          refine ⟨_, rfl, t, _, _, _, rfl, rfl, SqL.of upd_same, rfl, _, rfl, t, _, _, 2, rfl, rfl, upd_same, rfl, none, none, rfl, But.upd.trans But.upd, ns, p, r, r, b, upd_same, ?_, hp0, hr0, hr0⟩
          rw [upd_ne nst, upd_ne nst, hs]
      · exact ⟨none, none, rfl, But.refl, ns, p, d, m, b, ht, hs, hp0, hd0, hmm⟩
    · rintro σ' H1 ⟨v2, v3, rfl, hB, ns1, p1, d1, m1, b1, ht1, hs1, hp1, hd1, hm1'⟩
      refine ⟨_, rfl, t, _, _, _, rfl, rfl, SqL.of ht1, rfl, .inl ⟨_, rfl, _, rfl, _, _, rfl, rfl, hm0, ?_⟩⟩
      refine ⟨_, rfl, t, _, _, _, rfl, rfl, SqL.of ht1, rfl, _, rfl, _, _, rfl, rfl, ⟨hm0, hm1⟩, _, rfl, t, _, _, 2, rfl, rfl, ht1, rfl, ?_⟩
      refine ⟨_, rfl, k _ _ (Int.emod_nonneg _ (by omega)) (Int.emod_lt_of_pos _ hm0) (hB.trans But.upd) ⟨ns1, p1, d1 / many, m1, b1, upd_same, ?_, hp1, ?_, hm1'⟩⟩
      · rw [upd_ne nst, hs1]
      · exact Int.ediv_nonneg hd1 (by omega)
end
end K74

/-! The mathematics of blocks laid one after the other: plain lists, no program. -/
namespace GC
abbrev Blk := (Int × Int × Int) × List Int
def one (b : Blk) : List Int := b.1.1 :: b.1.2.1 :: b.1.2.2 :: (b.2.length : Int) :: b.2
def flat (bs : List Blk) : List Int := (bs.map one).flatten
def off (bs : List Blk) (j : Nat) : Nat := (flat (bs.take j)).length
theorem one_len (b : Blk) : (one b).length = 4 + b.2.length := by
  simp only [one, List.length_cons]; omega
theorem flat_nil : flat [] = [] := rfl
theorem flat_cons (b : Blk) (bs : List Blk) : flat (b :: bs) = one b ++ flat bs := by simp [flat]
theorem flat_append (a b : List Blk) : flat (a ++ b) = flat a ++ flat b := by simp [flat]
theorem flat_one (b : Blk) : flat [b] = one b := by simp [flat]
theorem off_zero (bs : List Blk) : off bs 0 = 0 := by simp [off, flat]
theorem off_succ {bs : List Blk} {j : Nat} {b : Blk} (h : bs[j]? = some b) : off bs (j + 1) = off bs j + 4 + b.2.length := by
  have hj := (List.getElem?_eq_some_iff.mp h).1
  unfold off
  rw [List.take_add_one, h, flat_append, List.length_append]
  show _ + (flat [b]).length = _
  rw [flat_one, one_len]; omega
theorem off_len (bs : List Blk) : off bs bs.length = (flat bs).length := by unfold off; rw [List.take_length]
theorem off_ge {bs : List Blk} {j : Nat} (h : bs.length ≤ j) : off bs j = (flat bs).length := by unfold off; rw [List.take_of_length_le h]
theorem off_app {a b : List Blk} {j : Nat} (h : j ≤ a.length) : off (a ++ b) j = off a j := by
  unfold off; rw [List.take_append_of_le_length h]
theorem off_step_le (bs : List Blk) (j : Nat) : off bs j ≤ off bs (j + 1) := by
  cases h : bs[j]? with
  | none =>
    have h2 := List.getElem?_eq_none_iff.mp h
    rw [off_ge h2, off_ge (Nat.le_succ_of_le h2)]; exact Nat.le_refl _
  | some b => rw [off_succ h]; omega
theorem off_mono (bs : List Blk) {i j : Nat} (h : i ≤ j) : off bs i ≤ off bs j := by
  induction h with
  | refl => exact Nat.le_refl _
  | step _ ih => exact Nat.le_trans ih (off_step_le bs _)
theorem off_lt {bs : List Blk} {i j : Nat} (h : i < j) (hi : i < bs.length) : off bs i + 4 ≤ off bs j := by
  have e : bs[i]? = some bs[i] := List.getElem?_eq_getElem hi
  have h1 := off_succ e
  have h2 := off_mono bs (show i + 1 ≤ j from h)
  omega
theorem off_inj {bs : List Blk} {i j : Nat} (hi : i < bs.length) (hj : j < bs.length) (h : off bs i = off bs j) : i = j := by
  rcases Nat.lt_trichotomy i j with q | q | q
  · have := off_lt q hi; omega
  · exact q
  · have := off_lt q hj; omega
/-- the offsets go by the lengths alone -/
theorem off_congr : ∀ {a b : List Blk} (_ : a.map (·.2.length) = b.map (·.2.length)) (j : Nat), off a j = off b j
  | [], [], _, _ => rfl
  | [], _ :: _, h, _ => by simp at h
  | _ :: _, [], h, _ => by simp at h
  | x :: a, y :: b, h, 0 => by rw [off_zero, off_zero]
  | x :: a, y :: b, h, j + 1 => by
    simp only [List.map_cons, List.cons.injEq] at h
    have ih := off_congr h.2 j
    unfold off at ih ⊢
    rw [List.take_succ_cons, List.take_succ_cons, flat_cons, flat_cons, List.length_append, List.length_append, one_len, one_len, ih, h.1]
theorem flat_split {bs : List Blk} {j : Nat} {b : Blk} (h : bs[j]? = some b) : flat bs = flat (bs.take j) ++ (one b ++ flat (bs.drop (j + 1))) := by
  obtain ⟨hj, e⟩ := List.getElem?_eq_some_iff.mp h
  have q : bs = bs.take j ++ (b :: bs.drop (j + 1)) := by
    rw [← e, ← List.drop_eq_getElem_cons hj, List.take_append_drop]
  conv => lhs; rw [q]
  rw [flat_append, flat_cons]
theorem drop_off {bs : List Blk} {j : Nat} {b : Blk} (h : bs[j]? = some b) : (flat bs).drop (off bs j) = one b ++ flat (bs.drop (j + 1)) := by
  rw [flat_split h]
  exact List.drop_left' rfl
theorem flat_len {bs : List Blk} {j : Nat} {b : Blk} (h : bs[j]? = some b) : off bs j + 4 + b.2.length ≤ (flat bs).length := by
  rw [← off_len, ← off_succ h]
  exact off_mono bs (List.getElem?_eq_some_iff.mp h).1
theorem get_at {bs : List Blk} {j : Nat} {b : Blk} (h : bs[j]? = some b) (i : Nat) (hi : i < 4 + b.2.length) : (flat bs)[off bs j + i]? = (one b)[i]? := by
  rw [← List.getElem?_drop, drop_off h]
  exact List.getElem?_append_left (by rw [one_len]; exact hi)
theorem get_cnt {bs : List Blk} {j : Nat} {b : Blk} (h : bs[j]? = some b) : (flat bs)[off bs j + 3]? = some (b.2.length : Int) := by
  rw [get_at h 3 (by omega)]; rfl
theorem get_fld {bs : List Blk} {j : Nat} {b : Blk} (h : bs[j]? = some b) (i : Nat) (hi : i < b.2.length) : (flat bs)[off bs j + 4 + i]? = b.2[i]? := by
  rw [show off bs j + 4 + i = off bs j + (4 + i) by omega, get_at h (4 + i) (by omega), show 4 + i = i + 4 by omega]
  rfl
theorem cut_all {bs : List Blk} {j : Nat} {b : Blk} (h : bs[j]? = some b) : ((flat bs).drop (off bs j)).take (4 + b.2.length) = one b := by
  rw [drop_off h, List.take_append_of_le_length (by rw [one_len]; exact Nat.le_refl _), ← one_len, List.take_length]
theorem cut_head {bs : List Blk} {j : Nat} {b : Blk} (h : bs[j]? = some b) : ((flat bs).drop (off bs j)).take 4 = [b.1.1, b.1.2.1, b.1.2.2, (b.2.length : Int)] := by
  rw [drop_off h, List.take_append_of_le_length (by rw [one_len]; omega)]
  rfl
theorem cut_fld {bs : List Blk} {j : Nat} {b : Blk} (h : bs[j]? = some b) : ((flat bs).drop (off bs j + 4)).take b.2.length = b.2 := by
  rw [← List.drop_drop, drop_off h]
  show (b.2 ++ flat (bs.drop (j + 1))).take b.2.length = b.2
  exact List.take_left' rfl
theorem set_fld {bs : List Blk} {j : Nat} {b : Blk} (h : bs[j]? = some b) (i : Nat) (hi : i < b.2.length) (v : Int) : (flat bs).set (off bs j + 4 + i) v = flat (bs.set j (b.1, b.2.set i v)) := by
  obtain ⟨hj, e⟩ := List.getElem?_eq_some_iff.mp h
  have h' : (bs.set j (b.1, b.2.set i v))[j]? = some (b.1, b.2.set i v) := List.getElem?_set_self hj
  rw [flat_split h', flat_split h, List.take_set_of_le (Nat.le_refl _), List.drop_set_of_lt (Nat.lt_succ_self _)]
  rw [List.set_append_right _ _ (by unfold off; omega)]
  congr 1
  rw [show off bs j + 4 + i - (flat (bs.take j)).length = 4 + i by unfold off; omega, List.set_append_left _ _ (by rw [one_len]; omega)]
  congr 1
  rw [show 4 + i = i + 4 by omega]
  simp [one, List.set_cons_succ]
theorem lens_set {bs : List Blk} {j : Nat} {b c : Blk} (h : bs[j]? = some b) (hc : c.2.length = b.2.length) : (bs.set j c).map (·.2.length) = bs.map (·.2.length) := by
  rw [List.map_set]
  apply List.ext_getElem?
  intro i
  by_cases q : i = j
  · subst q
    have hj := (List.getElem?_eq_some_iff.mp h).1
    rw [List.getElem?_set_self (by rw [List.length_map]; exact hj), List.getElem?_map, h]
    simp [hc]
  · rw [List.getElem?_set_ne (fun z => q z.symm)]
theorem off_set {bs : List Blk} {j : Nat} {b c : Blk} (h : bs[j]? = some b) (hc : c.2.length = b.2.length) (i : Nat) : off (bs.set j c) i = off bs i := off_congr (lens_set h hc) i

/-! ### words that name blocks -/
def Ptr (bs : List Blk) (w : Int) (j : Nat) : Prop := j < bs.length ∧ w = 4 * (off bs j : Int) + 1
def Good (bs : List Blk) (w : Int) : Prop := w % 4 ≠ 1 ∨ ∃ j, Ptr bs w j
theorem Ptr.mod {bs : List Blk} {w : Int} {j : Nat} (h : Ptr bs w j) : w % 4 = 1 := by
  obtain ⟨_, e⟩ := h
  omega
theorem Ptr.div {bs : List Blk} {w : Int} {j : Nat} (h : Ptr bs w j) : w / 4 = (off bs j : Int) := by
  obtain ⟨_, e⟩ := h
  omega
theorem Ptr.inj {bs : List Blk} {w : Int} {i j : Nat} (h : Ptr bs w i) (k : Ptr bs w j) : i = j := off_inj h.1 k.1 (by have a := h.2; have b := k.2; omega)
theorem Ptr.same {bs : List Blk} {w u : Int} {j : Nat} (h : Ptr bs w j) (k : Ptr bs u j) : w = u := h.2.trans k.2.symm
theorem Good.ptr {bs : List Blk} {w : Int} (h : Good bs w) (m : w % 4 = 1) : ∃ j, Ptr bs w j := h.resolve_left fun z => z m
structure WF (bs : List Blk) : Prop where
  few : ∀ b ∈ bs, b.2.length ≤ 3
  good : ∀ b ∈ bs, ∀ x ∈ b.2, Good bs x
theorem WF.at {bs : List Blk} (h : WF bs) {j : Nat} {b : Blk} (e : bs[j]? = some b) : b.2.length ≤ 3 ∧ ∀ x ∈ b.2, Good bs x :=
  ⟨h.few b (List.mem_of_getElem? e), h.good b (List.mem_of_getElem? e)⟩
/-- what a walk from the roots reaches: words that name blocks -/
inductive Reach (bs : List Blk) (rs : List Int) : Int → Prop where
  | root {x : Int} : x ∈ rs → x % 4 = 1 → Reach bs rs x
  | step {u x : Int} {j : Nat} {b : Blk} : Reach bs rs u → Ptr bs u j → bs[j]? = some b → x ∈ b.2 → x % 4 = 1 → Reach bs rs x
theorem Reach.mod {bs : List Blk} {rs : List Int} {x : Int} (h : Reach bs rs x) : x % 4 = 1 := by
  cases h with
  | root _ m => exact m
  | step _ _ _ _ m => exact m
theorem Reach.ptr {bs : List Blk} {rs : List Int} {x : Int} (W : WF bs) (R : ∀ x ∈ rs, Good bs x) (h : Reach bs rs x) : ∃ j, Ptr bs x j := by
  cases h with
  | root m q => exact (R _ m).ptr q
  | step _ _ e m q => exact ((W.at e).2 _ m).ptr q

/-! ### a walk with a list of what was seen and a list of what is to be done -/
structure Walk (bs : List Blk) (rs seen todo : List Int) : Prop where
  nd : seen.Nodup
  sr : ∀ x ∈ seen, Reach bs rs x
  tg : ∀ x ∈ todo, Good bs x
  tr : ∀ x ∈ todo, x % 4 = 1 → Reach bs rs x
  rt : ∀ x ∈ rs, x % 4 = 1 → x ∈ seen ∨ x ∈ todo
  cl : ∀ u ∈ seen, ∀ j b, Ptr bs u j → bs[j]? = some b → ∀ x ∈ b.2, x % 4 = 1 → x ∈ seen ∨ x ∈ todo
theorem Walk.start {bs : List Blk} {rs : List Int} (R : ∀ x ∈ rs, Good bs x) : Walk bs rs [] rs :=
  ⟨List.nodup_nil, fun _ h => (nomatch h), R, fun _ h m => .root h m, fun _ h _ => .inr h, fun _ h => (nomatch h)⟩
/-- the last one is done and not taken -/
theorem Walk.skip {bs : List Blk} {rs seen t : List Int} {x : Int} (W : Walk bs rs seen (t ++ [x])) (h : x % 4 = 1 → x ∈ seen) : Walk bs rs seen t := by
  have cut : ∀ y, y % 4 = 1 → y ∈ seen ∨ y ∈ t ++ [x] → y ∈ seen ∨ y ∈ t := fun y m q => by
    rcases q with q | q
    · exact .inl q
    · rcases List.mem_append.mp q with q | q
      · exact .inr q
      · have e : y = x := by simpa using q
        subst e
        exact .inl (h m)
  exact ⟨W.nd, W.sr, fun y q => W.tg y (List.mem_append_left _ q), fun y q => W.tr y (List.mem_append_left _ q), fun y q m => cut y m (W.rt y q m), fun u q j b p e y hy m => cut y m (W.cl u q j b p e y hy m)⟩
/-- .. and taken -/
theorem Walk.take {bs : List Blk} {rs seen t : List Int} {x : Int} {j : Nat} {b : Blk} (wf : WF bs) (W : Walk bs rs seen (t ++ [x])) (p : Ptr bs x j) (e : bs[j]? = some b) (n : x ∉ seen) : Walk bs rs (seen ++ [x]) (t ++ b.2) := by
  have hx : x ∈ t ++ [x] := List.mem_append_right _ (by simp)
  have rx : Reach bs rs x := W.tr x hx p.mod
  have put : ∀ y, y ∈ seen ∨ y ∈ t ++ [x] → y ∈ seen ++ [x] ∨ y ∈ t ++ b.2 := fun y q => by
    rcases q with q | q
    · exact .inl (List.mem_append_left _ q)
    · rcases List.mem_append.mp q with q | q
      · exact .inr (List.mem_append_left _ q)
      · exact .inl (List.mem_append_right _ q)
  refine ⟨?_, fun y q => ?_, fun y q => ?_, fun y q m => ?_, fun y q m => put y (W.rt y q m), fun u q i c hp hc y hy m => ?_⟩
  · rw [List.nodup_append]
    refine ⟨W.nd, by simp, fun a ha c hc z => ?_⟩
    have : c = x := by simpa using hc
    subst this; subst z
    exact n ha
  · rcases List.mem_append.mp q with q | q
    · exact W.sr y q
    · have : y = x := by simpa using q
      subst this
      exact rx
  · rcases List.mem_append.mp q with q | q
    · exact W.tg y (List.mem_append_left _ q)
    · exact (wf.at e).2 y q
  · rcases List.mem_append.mp q with q | q
    · exact W.tr y (List.mem_append_left _ q) m
    · exact .step rx p e q m
  · rcases List.mem_append.mp q with q | q
    · exact put y (W.cl u q i c hp hc y hy m)
    · have : u = x := by simpa using q
      subst this
      have : i = j := hp.inj p
      subst this
      rw [e] at hc
      cases hc
      exact .inr (List.mem_append_right _ hy)
theorem Walk.end {bs : List Blk} {rs seen : List Int} (W : Walk bs rs seen []) : ∀ x, x ∈ seen ↔ Reach bs rs x := by
  refine fun x => ⟨W.sr x, fun h => ?_⟩
  induction h with
  | root m q => exact (W.rt _ m q).resolve_right (fun z => nomatch z)
  | step _ p e m q ih => exact (W.cl _ ih _ _ p e _ m q).resolve_right (fun z => nomatch z)
theorem nodup_le {α : Type} [DecidableEq α] : ∀ {a b : List α}, a.Nodup → (∀ x ∈ a, x ∈ b) → a.length ≤ b.length
  | [], _, _, _ => Nat.zero_le _
  | x :: a, b, nd, h => by
    have nd' := List.nodup_cons.mp nd
    have hx : x ∈ b := h x List.mem_cons_self
    have ih := nodup_le (a := a) (b := b.erase x) nd'.2 fun y hy => (List.mem_erase_of_ne (fun z => nd'.1 (by rw [← z]; exact hy))).mpr (h y (List.mem_cons_of_mem _ hy))
    rw [List.length_erase_of_mem hx] at ih
    have : 0 < b.length := List.length_pos_of_mem hx
    rw [List.length_cons]
    omega
/-- as many as there are blocks, at most -/
theorem few_ptrs {bs : List Blk} {seen : List Int} (nd : seen.Nodup) (hp : ∀ x ∈ seen, ∃ j, Ptr bs x j) : seen.length ≤ bs.length := by
  have h2 := nodup_le (b := (List.range bs.length).map fun j => 4 * (off bs j : Int) + 1) nd fun x hx => by
    obtain ⟨j, hj, e⟩ := hp x hx
    exact List.mem_map.mpr ⟨j, List.mem_range.mpr hj, e.symm⟩
  rw [List.length_map, List.length_range] at h2
  exact h2
/-- the measure of a walk -/
def left (bs : List Blk) (seen todo : List Int) : Nat := 4 * (bs.length - seen.length) + todo.length
theorem Walk.few {bs : List Blk} {rs seen todo : List Int} (wf : WF bs) (R : ∀ x ∈ rs, Good bs x) (W : Walk bs rs seen todo) : seen.length ≤ bs.length := few_ptrs W.nd fun x hx => (W.sr x hx).ptr wf R
theorem left_skip {bs : List Blk} {seen t : List Int} {x : Int} : left bs seen t < left bs seen (t ++ [x]) := by
  unfold left; rw [List.length_append, List.length_singleton]; omega
theorem left_take {bs : List Blk} {rs seen t fs : List Int} {x : Int} (wf : WF bs) (R : ∀ x ∈ rs, Good bs x) (W : Walk bs rs (seen ++ [x]) (t ++ fs)) (h : fs.length ≤ 3) : left bs (seen ++ [x]) (t ++ fs) < left bs seen (t ++ [x]) := by
  have h1 := W.few wf R
  rw [List.length_append, List.length_singleton] at h1
  unfold left; simp only [List.length_append, List.length_singleton]; omega

/-! ### lists in order -/
theorem perm_sorted : ∀ {a b : List Int}, a.Pairwise (· ≤ ·) → b.Pairwise (· ≤ ·) → a.Perm b → a = b
  | [], b, _, _, p => (List.nil_perm.mp p).symm
  | x :: a, [], _, _, p => absurd p.length_eq (by simp)
  | x :: a, y :: b, ha, hb, p => by
    have ha' := List.pairwise_cons.mp ha
    have hb' := List.pairwise_cons.mp hb
    have e : x = y := by
      have h1 : x ∈ y :: b := p.subset List.mem_cons_self
      have h2 : y ∈ x :: a := p.symm.subset List.mem_cons_self
      have l1 : y ≤ x := by
        rcases List.mem_cons.mp h1 with z | z
        · omega
        · exact hb'.1 x z
      have l2 : x ≤ y := by
        rcases List.mem_cons.mp h2 with z | z
        · omega
        · exact ha'.1 y z
      omega
    subst e
    rw [perm_sorted ha'.2 hb'.2 ((List.perm_cons x).mp p)]

/-! ### the collection -/
def sel (bs : List Blk) (ks : List Nat) : List Blk := ks.map fun j => bs.getD j ((0, 0, 0), [])
theorem sel_get {bs : List Blk} {ks : List Nat} {i j : Nat} {b : Blk} (h : ks[i]? = some j) (e : bs[j]? = some b) : (sel bs ks)[i]? = some b := by
  unfold sel
  rw [List.getElem?_map, h]
  simp [List.getD_eq_getElem?_getD, e]
theorem sel_app (bs : List Blk) (ks l : List Nat) : sel bs (ks ++ l) = sel bs ks ++ sel bs l := by simp [sel]
theorem sel_len (bs : List Blk) (ks : List Nat) : (sel bs ks).length = ks.length := by simp [sel]
theorem noff_app {bs : List Blk} {ks l : List Nat} {i : Nat} (h : i ≤ ks.length) : off (sel bs (ks ++ l)) i = off (sel bs ks) i := by
  rw [sel_app]
  exact off_app (by rw [sel_len]; exact h)
/-- the word's new form -/
def Mv (bs : List Blk) (ks : List Nat) (x y : Int) : Prop := (x % 4 ≠ 1 ∧ y = x) ∨ ∃ j i, Ptr bs x j ∧ ks[i]? = some j ∧ y = 4 * (off (sel bs ks) i : Int) + 1
theorem Mv.mono {bs : List Blk} {ks : List Nat} {x y : Int} (l : List Nat) (h : Mv bs ks x y) : Mv bs (ks ++ l) x y := by
  rcases h with h | ⟨j, i, p, e, q⟩
  · exact .inl h
  · have hi := (List.getElem?_eq_some_iff.mp e).1
    exact .inr ⟨j, i, p, by rw [List.getElem?_append_left hi]; exact e, by rw [noff_app (Nat.le_of_lt hi)]; exact q⟩
theorem nd_ix {α : Type} {l : List α} (hN : l.Nodup) {i j : Nat} {x : α} (a : l[i]? = some x) (b : l[j]? = some x) : i = j := by
  obtain ⟨h1, e1⟩ := List.getElem?_eq_some_iff.mp a
  obtain ⟨h2, e2⟩ := List.getElem?_eq_some_iff.mp b
  exact (List.getElem_inj hN).mp (e1.trans e2.symm)
theorem Mv.fun {bs : List Blk} {ks : List Nat} (nd : ks.Nodup) {x y z : Int} (h : Mv bs ks x y) (k : Mv bs ks x z) : y = z := by
  rcases h with ⟨m, h⟩ | ⟨j, i, p, e, h⟩
  · rcases k with ⟨_, k⟩ | ⟨j, i, p, _⟩
    · rw [h, k]
    · exact absurd p.mod m
  · rcases k with ⟨m, _⟩ | ⟨j', i', p', e', k⟩
    · exact absurd p.mod m
    · have := p.inj p'
      subst this
      have := nd_ix nd e e'
      subst this
      rw [h, k]
theorem Mv.ptr {bs : List Blk} {ks : List Nat} {x y : Int} (h : Mv bs ks x y) (m : x % 4 = 1) : ∃ j i, Ptr bs x j ∧ ks[i]? = some j ∧ y = 4 * (off (sel bs ks) i : Int) + 1 := h.resolve_left fun z => z.1 m
theorem Mv.mod {bs : List Blk} {ks : List Nat} {x y : Int} (h : Mv bs ks x y) : y % 4 = 1 ↔ x % 4 = 1 := by
  rcases h with ⟨m, h⟩ | ⟨j, i, p, e, h⟩
  · rw [h]
  · have := p.mod
    omega
theorem Mv.same {bs : List Blk} {ks : List Nat} {x y : Int} (h : Mv bs ks x y) (m : x % 4 ≠ 1) : y = x := by
  rcases h with ⟨_, h⟩ | ⟨j, i, p, e, h⟩
  · exact h
  · exact absurd p.mod m
theorem Mv.inj {bs : List Blk} {ks : List Nat} {x z y : Int} (h : Mv bs ks x y) (k : Mv bs ks z y) : x = z := by
  by_cases m : x % 4 = 1
  · obtain ⟨j, i, p, e, h⟩ := h.ptr m
    have m2 : z % 4 = 1 := k.mod.mp (by omega)
    obtain ⟨j', i', p', e', k⟩ := k.ptr m2
    have hi := (List.getElem?_eq_some_iff.mp e).1
    have hi' := (List.getElem?_eq_some_iff.mp e').1
    have q : i = i' := off_inj (bs := sel bs ks) (by rw [sel_len]; exact hi) (by rw [sel_len]; exact hi') (by omega)
    subst q
    rw [e] at e'
    cases e'
    exact p.same p'
  · have e := h.same m
    have m2 : ¬ z % 4 = 1 := fun q => m (h.mod.mp (k.mod.mpr q))
    rw [← e, k.same m2]
/-- a block of the new space, its first t fields moved -/
structure BRel (bs : List Blk) (ks : List Nat) (t : Nat) (b c : Blk) : Prop where
  hdr : c.1 = b.1
  len : c.2.length = b.2.length
  mv : ∀ k x, k < t → b.2[k]? = some x → ∃ y, c.2[k]? = some y ∧ Mv bs ks x y
  raw : ∀ k, t ≤ k → c.2[k]? = b.2[k]?
theorem BRel.refl {bs : List Blk} {ks : List Nat} {b : Blk} : BRel bs ks 0 b b := ⟨rfl, rfl, fun _ _ h => absurd h (Nat.not_lt_zero _), fun _ _ => rfl⟩
theorem BRel.mono {bs : List Blk} {ks : List Nat} {t : Nat} {b c : Blk} (l : List Nat) (h : BRel bs ks t b c) : BRel bs (ks ++ l) t b c :=
  ⟨h.hdr, h.len, fun k x ht e => let ⟨y, q, m⟩ := h.mv k x ht e; ⟨y, q, m.mono l⟩, h.raw⟩
theorem BRel.next {bs : List Blk} {ks : List Nat} {t : Nat} {b c : Blk} {x y : Int} (h : BRel bs ks t b c) (e : b.2[t]? = some x) (m : Mv bs ks x y) : BRel bs ks (t + 1) b (c.1, c.2.set t y) := by
  have ht := (List.getElem?_eq_some_iff.mp e).1
  refine ⟨h.hdr, by simp [h.len], fun k z hk q => ?_, fun k hk => ?_⟩
  · by_cases kt : k = t
    · subst kt
      rw [e] at q
      cases q
      exact ⟨y, List.getElem?_set_self (by rw [h.len]; exact ht), m⟩
    · obtain ⟨y', q', m'⟩ := h.mv k z (by omega) q
      exact ⟨y', by rw [List.getElem?_set_ne (fun z => kt z.symm)]; exact q', m'⟩
  · rw [List.getElem?_set_ne (by omega)]
    exact h.raw k (by omega)
/-- the new space as it grows: sc tells how far each block has come -/
structure Space (bs : List Blk) (ks : List Nat) (sc : Nat → Nat) (nb : List Blk) : Prop where
  nd : ks.Nodup
  lt : ∀ j ∈ ks, j < bs.length
  len : nb.length = ks.length
  blk : ∀ i j b, ks[i]? = some j → bs[j]? = some b → ∃ c, nb[i]? = some c ∧ BRel bs ks (sc i) b c
theorem Space.lens {bs : List Blk} {ks : List Nat} {sc : Nat → Nat} {nb : List Blk} (S : Space bs ks sc nb) : nb.map (·.2.length) = (sel bs ks).map (·.2.length) := by
  apply List.ext_getElem?
  intro i
  rw [List.getElem?_map, List.getElem?_map]
  cases e : ks[i]? with
  | none =>
    have h := List.getElem?_eq_none_iff.mp e
    rw [List.getElem?_eq_none (by rw [S.len]; exact h), List.getElem?_eq_none (by rw [sel_len]; exact h)]
  | some j =>
    have hj := S.lt j (List.mem_of_getElem? e)
    have eb : bs[j]? = some bs[j] := List.getElem?_eq_getElem hj
    obtain ⟨c, ec, r⟩ := S.blk i j _ e eb
    rw [ec, sel_get e eb]
    simp [r.len]
theorem Space.off {bs : List Blk} {ks : List Nat} {sc : Nat → Nat} {nb : List Blk} (S : Space bs ks sc nb) (i : Nat) : off nb i = off (sel bs ks) i := off_congr S.lens i
theorem Space.start {bs : List Blk} {sc : Nat → Nat} : Space bs [] sc [] := ⟨List.nodup_nil, fun _ h => (nomatch h), rfl, fun i j b h => by simp at h⟩
theorem Space.few {bs : List Blk} {ks : List Nat} {sc : Nat → Nat} {nb : List Blk} (S : Space bs ks sc nb) : ks.length ≤ bs.length := by
  have := nodup_le (b := List.range bs.length) S.nd fun j h => List.mem_range.mpr (S.lt j h)
  rwa [List.length_range] at this
theorem Space.sc {bs : List Blk} {ks : List Nat} {sc sc' : Nat → Nat} {nb : List Blk} (S : Space bs ks sc nb) (h : ∀ i, i < ks.length → sc i = sc' i) : Space bs ks sc' nb :=
  ⟨S.nd, S.lt, S.len, fun i j b e eb => by
    rw [← h i (List.getElem?_eq_some_iff.mp e).1]
    exact S.blk i j b e eb⟩
/-- a new block at the end -/
theorem Space.add {bs : List Blk} {ks : List Nat} {sc : Nat → Nat} {nb : List Blk} {j : Nat} {b : Blk} (S : Space bs ks sc nb) (e : bs[j]? = some b) (n : j ∉ ks) (h0 : sc ks.length = 0) : Space bs (ks ++ [j]) sc (nb ++ [b]) := by
  refine ⟨?_, fun i h => ?_, by simp [S.len], fun i k c hk hc => ?_⟩
  · rw [List.nodup_append]
    refine ⟨S.nd, by simp, fun a ha c hc z => ?_⟩
    have : c = j := by simpa using hc
    subst this; subst z
    exact n ha
  · rcases List.mem_append.mp h with h | h
    · exact S.lt i h
    · have : i = j := by simpa using h
      subst this
      exact (List.getElem?_eq_some_iff.mp e).1
  · by_cases hi : i < ks.length
    · rw [List.getElem?_append_left hi] at hk
      obtain ⟨d, hd, r⟩ := S.blk i k c hk hc
      exact ⟨d, by rw [List.getElem?_append_left (by rw [S.len]; exact hi)]; exact hd, r.mono _⟩
    · rw [List.getElem?_append_right (by omega)] at hk
      have hi' : i - ks.length = 0 := by
        have := (List.getElem?_eq_some_iff.mp hk).1
        simp at this
        omega
      rw [hi'] at hk
      have : j = k := by simpa using hk
      subst this
      rw [e] at hc
      cases hc
      have : i = ks.length := by omega
      subst this
      rw [h0]
      exact ⟨b, by rw [List.getElem?_append_right (by rw [S.len]; exact Nat.le_refl _), S.len, Nat.sub_self] <;> rfl, BRel.refl⟩
/-- one field of block i is moved -/
theorem Space.set {bs : List Blk} {ks : List Nat} {sc : Nat → Nat} {nb : List Blk} {i j t : Nat} {b c : Blk} {x y : Int} (S : Space bs ks sc nb) (ei : ks[i]? = some j) (eb : bs[j]? = some b) (ec : nb[i]? = some c) (ht : sc i = t) (ex : b.2[t]? = some x) (m : Mv bs ks x y) :
    Space bs ks (fun k => if k = i then t + 1 else sc k) (nb.set i (c.1, c.2.set t y)) := by
  refine ⟨S.nd, S.lt, by simp [S.len], fun k l d hk hd => ?_⟩
  by_cases ki : k = i
  · subst ki
    rw [ei] at hk
    cases hk
    rw [eb] at hd
    cases hd
    obtain ⟨c', hc', r⟩ := S.blk _ _ _ ei eb
    rw [ec] at hc'
    cases hc'
    rw [ht] at r
    refine ⟨_, List.getElem?_set_self (List.getElem?_eq_some_iff.mp ec).1, ?_⟩
    rw [if_pos rfl]
    exact r.next ex m
  · obtain ⟨c', hc', r⟩ := S.blk k l d hk hd
    refine ⟨c', by rw [List.getElem?_set_ne (fun z => ki z.symm)]; exact hc', ?_⟩
    rw [if_neg ki]
    exact r
/-- what a collection hands back -/
structure Done (bs : List Blk) (rs : List Int) (ks : List Nat) (nb : List Blk) (ns : List Int) : Prop where
  sp : Space bs ks (fun _ => 3) nb
  keys : ∀ j, j ∈ ks ↔ j < bs.length ∧ Reach bs rs (4 * (off bs j : Int) + 1)
  len : ns.length = rs.length
  roots : ∀ (i : Nat) (x : Int), rs[i]? = some x → ∃ y, ns[i]? = some y ∧ Mv bs ks x y
theorem Done.flds {bs nb : List Blk} {rs ns : List Int} {ks : List Nat} (wf : WF bs) (D : Done bs rs ks nb ns) {i j : Nat} {b : Blk} (e : ks[i]? = some j) (eb : bs[j]? = some b) : ∃ c, nb[i]? = some c ∧ c.1 = b.1 ∧ c.2.length = b.2.length ∧ ∀ (k : Nat) (x : Int), b.2[k]? = some x → ∃ y, c.2[k]? = some y ∧ Mv bs ks x y := by
  obtain ⟨c, ec, r⟩ := D.sp.blk i j b e eb
  refine ⟨c, ec, r.hdr, r.len, fun k x hx => r.mv k x ?_ hx⟩
  have := (List.getElem?_eq_some_iff.mp hx).1
  have := (wf.at eb).1
  omega
theorem Done.mv {bs nb : List Blk} {rs ns : List Int} {ks : List Nat} (wf : WF bs) (R : ∀ x ∈ rs, Good bs x) (D : Done bs rs ks nb ns) {x : Int} (h : Reach bs rs x) : ∃ y, Mv bs ks x y := by
  obtain ⟨j, p⟩ := h.ptr wf R
  have hj : j ∈ ks := (D.keys j).mpr ⟨p.1, by rw [← p.2]; exact h⟩
  obtain ⟨i, hi, e⟩ := List.mem_iff_getElem.mp hj
  exact ⟨_, .inr ⟨j, i, p, by rw [List.getElem?_eq_getElem hi, e], rfl⟩⟩
/-- the new words of what is reached are the beginnings of the new blocks -/
theorem Done.news {bs nb : List Blk} {rs ns : List Int} {ks : List Nat} (wf : WF bs) (R : ∀ x ∈ rs, Good bs x) (D : Done bs rs ks nb ns) (y : Int) : (∃ x, Reach bs rs x ∧ Mv bs ks x y) ↔ ∃ i, i < nb.length ∧ y = 4 * (off nb i : Int) + 1 := by
  constructor
  · rintro ⟨x, h, m⟩
    obtain ⟨j, i, p, e, q⟩ := m.ptr h.mod
    exact ⟨i, by rw [D.sp.len]; exact (List.getElem?_eq_some_iff.mp e).1, by rw [D.sp.off]; exact q⟩
  · rintro ⟨i, hi, q⟩
    rw [D.sp.len] at hi
    have e : ks[i]? = some ks[i] := List.getElem?_eq_getElem hi
    have hj := (D.keys _).mp (List.mem_of_getElem? e)
    exact ⟨_, hj.2, .inr ⟨_, i, ⟨hj.1, rfl⟩, e, by rw [← D.sp.off]; exact q⟩⟩
theorem Done.wf {bs nb : List Blk} {rs ns : List Int} {ks : List Nat} (wf : WF bs) (D : Done bs rs ks nb ns) : WF nb := by
  have all : ∀ c ∈ nb, ∃ i j b, ks[i]? = some j ∧ bs[j]? = some b ∧ nb[i]? = some c := fun c hc => by
    obtain ⟨i, hi, e⟩ := List.mem_iff_getElem.mp hc
    have hk : i < ks.length := by rw [← D.sp.len]; exact hi
    have e1 : ks[i]? = some ks[i] := List.getElem?_eq_getElem hk
    have hj := D.sp.lt _ (List.mem_of_getElem? e1)
    exact ⟨i, _, _, e1, List.getElem?_eq_getElem hj, by rw [List.getElem?_eq_getElem hi, e]⟩
  refine ⟨fun c hc => ?_, fun c hc y hy => ?_⟩
  · obtain ⟨i, j, b, e1, e2, e3⟩ := all c hc
    obtain ⟨c', ec, _, hl, _⟩ := D.flds wf e1 e2
    rw [e3] at ec
    cases ec
    rw [hl]
    exact (wf.at e2).1
  · obtain ⟨i, j, b, e1, e2, e3⟩ := all c hc
    obtain ⟨c', ec, _, hl, hf⟩ := D.flds wf e1 e2
    rw [e3] at ec
    cases ec
    obtain ⟨k, hk, ek⟩ := List.mem_iff_getElem.mp hy
    obtain ⟨y', ey, m⟩ := hf k _ (List.getElem?_eq_getElem (by rw [← hl]; exact hk))
    rw [List.getElem?_eq_getElem hk, ek] at ey
    cases ey
    by_cases q : y % 4 = 1
    · obtain ⟨_, i', _, e', q'⟩ := m.ptr (m.mod.mp q)
      exact .inr ⟨i', by rw [D.sp.len]; exact (List.getElem?_eq_some_iff.mp e').1, by rw [D.sp.off]; exact q'⟩
    · exact .inl q
theorem Done.good {bs nb : List Blk} {rs ns : List Int} {ks : List Nat} (D : Done bs rs ks nb ns) : ∀ y ∈ ns, Good nb y := fun y hy => by
  obtain ⟨k, hk, ek⟩ := List.mem_iff_getElem.mp hy
  have hk' : k < rs.length := by rw [← D.len]; exact hk
  obtain ⟨y', ey, m⟩ := D.roots k _ (List.getElem?_eq_getElem hk')
  rw [List.getElem?_eq_getElem hk, ek] at ey
  cases ey
  by_cases q : y % 4 = 1
  · obtain ⟨_, i', _, e', q'⟩ := m.ptr (m.mod.mp q)
    exact .inr ⟨i', by rw [D.sp.len]; exact (List.getElem?_eq_some_iff.mp e').1, by rw [D.sp.off]; exact q'⟩
  · exact .inl q
/-- what is reached in the new space is what is reached in the old one -/
theorem Done.reach {bs nb : List Blk} {rs ns : List Int} {ks : List Nat} (wf : WF bs) (D : Done bs rs ks nb ns) (y : Int) : Reach nb ns y ↔ ∃ x, Reach bs rs x ∧ Mv bs ks x y := by
  constructor
  · intro h
    induction h with
    | @root y hy q =>
      obtain ⟨k, hk, ek⟩ := List.mem_iff_getElem.mp hy
      have hk' : k < rs.length := by rw [← D.len]; exact hk
      obtain ⟨y', ey, m⟩ := D.roots k _ (List.getElem?_eq_getElem hk')
      rw [List.getElem?_eq_getElem hk, ek] at ey
      cases ey
      exact ⟨_, .root (List.getElem_mem hk') (m.mod.mp q), m⟩
    | @step u y i c _ p ec hy q ih =>
      obtain ⟨x, hx, m⟩ := ih
      obtain ⟨j, i', pj, e', q'⟩ := m.ptr hx.mod
      have eo := p.2
      have hi' := (List.getElem?_eq_some_iff.mp e').1
      have : i = i' := off_inj p.1 (by rw [D.sp.len]; exact hi') (by rw [D.sp.off i']; omega)
      subst this
      obtain ⟨b, eb⟩ : ∃ b, bs[j]? = some b := ⟨_, List.getElem?_eq_getElem pj.1⟩
      obtain ⟨c', ec', _, hl, hf⟩ := D.flds wf e' eb
      rw [ec] at ec'
      cases ec'
      obtain ⟨k, hk, ek⟩ := List.mem_iff_getElem.mp hy
      have hkb : k < b.2.length := by rw [← hl]; exact hk
      obtain ⟨y', ey, m'⟩ := hf k _ (List.getElem?_eq_getElem hkb)
      rw [List.getElem?_eq_getElem hk, ek] at ey
      cases ey
      exact ⟨_, .step hx pj eb (List.getElem_mem hkb) (m'.mod.mp q), m'⟩
  · rintro ⟨x, h, m⟩
    induction h generalizing y with
    | @root x hx q =>
      obtain ⟨k, hk, ek⟩ := List.mem_iff_getElem.mp hx
      obtain ⟨y', ey, m'⟩ := D.roots k x (by rw [List.getElem?_eq_getElem hk, ek])
      have := m.fun D.sp.nd m'
      subst this
      exact .root (List.mem_of_getElem? ey) (m.mod.mpr q)
    | @step u x j b hu p eb hx q ih =>
      have hj : j ∈ ks := (D.keys j).mpr ⟨p.1, by rw [← p.2]; exact hu⟩
      obtain ⟨i, hi, e⟩ := List.mem_iff_getElem.mp hj
      have e' : ks[i]? = some j := by rw [List.getElem?_eq_getElem hi, e]
      have hm : Mv bs ks u (4 * (off (sel bs ks) i : Int) + 1) := .inr ⟨j, i, p, e', rfl⟩
      have ih := ih _ hm
      obtain ⟨c, ec, _, hl, hf⟩ := D.flds wf e' eb
      obtain ⟨k, hk, ek⟩ := List.mem_iff_getElem.mp hx
      obtain ⟨y', ey, m'⟩ := hf k x (by rw [List.getElem?_eq_getElem hk, ek])
      have := m.fun D.sp.nd m'
      subst this
      exact .step ih ⟨by rw [D.sp.len]; exact hi, by rw [D.sp.off]⟩ ec (List.mem_of_getElem? ey) (m.mod.mpr q)
end GC

set_option Elab.async false
set_option maxRecDepth 100000
set_option linter.all false
set_option maxHeartbeats 4000000
namespace K74
open PySem L2 GC
section
variable {P : Program} {w : World} {K : PySem.W.Frag} {mg : Str → Option Value} {base : Heap} {A : Adr}
abbrev nums (ns : List Int) : List V := ns.map V.int
def offs (bs : List Blk) : List Int := (List.range bs.length).map fun j => (off bs j : Int)
theorem offs_add (bs : List Blk) (b : Blk) : offs (bs ++ [b]) = offs bs ++ [((flat bs).length : Int)] := by
  unfold offs
  rw [List.length_append, List.length_singleton, List.range_succ, List.map_append]
  congr 1
  · apply List.map_congr_left
    intro j hj
    rw [off_app (Nat.le_of_lt (List.mem_range.mp hj))]
  · show [((off (bs ++ [b]) bs.length : Nat) : Int)] = _
    rw [off_app (Nat.le_refl _), off_len]
theorem offs_congr {a b : List Blk} (h : a.map (·.2.length) = b.map (·.2.length)) : offs a = offs b := by
  have hl : a.length = b.length := by simpa using congrArg List.length h
  unfold offs
  rw [hl]
  apply List.map_congr_left
  intro j _
  rw [off_congr h]
theorem offs_get {bs : List Blk} {i : Nat} (h : i < bs.length) : (offs bs)[i]? = some (off bs i : Int) := by
  unfold offs
  rw [List.getElem?_map, List.getElem?_range h]
  rfl
theorem mem_offs {bs : List Blk} {o : Int} : o ∈ offs bs ↔ ∃ j, j < bs.length ∧ o = (off bs j : Int) := by
  unfold offs
  rw [List.mem_map]
  constructor
  · rintro ⟨j, hj, e⟩
    exact ⟨j, List.mem_range.mp hj, e.symm⟩
  · rintro ⟨j, hj, e⟩
    exact ⟨j, List.mem_range.mpr hj, e.symm⟩
def GoodO (os : List Int) (x : Int) : Prop := x % 4 ≠ 1 ∨ ∃ o ∈ os, x = 4 * o + 1
theorem GoodO.good {bs : List Blk} {x : Int} (h : GoodO (offs bs) x) : Good bs x := by
  rcases h with h | ⟨o, ho, e⟩
  · exact .inl h
  · obtain ⟨j, hj, q⟩ := mem_offs.mp ho
    exact .inr ⟨j, hj, by rw [e, q]⟩
theorem lst_ne {H : Hp} {a b s : Addr} {ns : List Int} {r : List V} (h : H a = some (.lst (nums ns))) (h' : H b = some (.lst (.ref s :: r))) : a ≠ b := by
  refine ne_of h h' fun e => ?_
  cases ns with
  | nil => cases e
  | cons x r => cases e
theorem TapeAt.off_ints {H : Hp} {t s a : Addr} {ns : List Int} (T : TapeAt H t s) (h : H a = some (.lst (nums ns))) : a ≠ t := by
  obtain ⟨_, p, d, m, b, h1, _⟩ := T
  exact lst_ne h h1
theorem ixN_nat {n j : Nat} (h : j < n) : ixN n (j : Int) = some j := by
  unfold ixN
  rw [if_pos (by omega), if_pos (by omega)]
  simp
theorem at_ints {ns : List Int} {z x : Int} {j : Nat} (e : z = (j : Int)) (h : ns[j]? = some x) : atI (nums ns) z = some (.int x) := by
  rw [e]
  have q : atI (nums ns) (j : Int) = some (.int x) := atI_nat (by rw [List.getElem?_map, h] <;> rfl)
  exact q
def spWord : Sp := fun vs H Q _ => ∃ (t s bl : Addr) (os : List Int), vs = [.ref t, .ref bl] ∧ TapeAt H t s ∧ H bl = some (.lst (nums os)) ∧ os.length < 1000 ∧
  ∀ (x : Int) (H' : Hp), GoodO os x → But t H H' → TapeAt H' t s → Q (.int x) H'
theorem ok__law_word (T : Txt K mg A) : FnOk P w K mg base CX0 3 A.f__law_word A.d__law_word ["tape", "blocks"] spWord := by
  have G__law_take : FnOk P w K mg base CX0 2 A.f__law_take A.d__law_take _ _ := ok__law_take T
  refine T.F__law_word.ok sc__law_word (fun vs H Q E h => ?_) (fun cdv Ar outer s H vs Q E hr h => ?_)
  · obtain ⟨t, s, bl, os, rfl, _⟩ := h
    rfl
  · obtain ⟨t, s, bl, os, rfl, hT, hb, hl, k⟩ := h
    have nbt := hT.off_ints hb
    refine ⟨_, (pss_cons (ps_set (i := 2) sc__law_word.nd rfl (Or.inl rfl) (pe_call G__law_take (hr.mono (by decide)) rfl T.g__law_take T.F__law_take.kp T.b__law_take .nil pass0 (pa_cons (pv 0) (pa_cons pe_int pa_nil)))) (Evl.pss_cut (ps_if (PW.pt (pw_and (pt_cmpR op_gt (pv 2) pe_int (nomark _)) (pw_and1 (pt_cmpR op_gt (pe_callB call_len_seq (by rfl) T.n_len PySem.boot_len (pa_cons (pv 1) pa_nil)) pe_int (nomark _))))) (pss_one (ps_ret (pe_op op_add (pe_op op_mul pe_int (pe_ix (ixl (K := K) rfl) (pv 1) (pe_call G__law_take (hr.mono (by decide)) rfl T.g__law_take T.F__law_take.kp T.b__law_take .nil pass0 (pa_cons (pv 0) (pa_cons (pe_callB call_len_seq (by rfl) T.n_len PySem.boot_len (pa_cons (pv 1) pa_nil)) pa_nil))) (fun _ _ => rfl))) pe_int))) pss_nil) (Evl.pss_cut (ps_if (pt_cmpR op_eq (pv 2) pe_int (nomark _)) (pss_one (ps_ret (pe_op op_add (pe_op op_mul pe_int (pe_op op_add (pe_op op_mul pe_int (pe_call G__law_take (hr.mono (by decide)) rfl T.g__law_take T.F__law_take.kp T.b__law_take .nil pass0 (pa_cons (pv 0) (pa_cons pe_int pa_nil)))) (pe_call G__law_take (hr.mono (by decide)) rfl T.g__law_take T.F__law_take.kp T.b__law_take .nil pass0 (pa_cons (pv 0) (pa_cons pe_int pa_nil))))) pe_int))) pss_nil) (pss_one (ps_ret (pe_ifExp (pt_cmpR op_eq (pe_call G__law_take (hr.mono (by decide)) rfl T.g__law_take T.F__law_take.kp T.b__law_take .nil pass0 (pa_cons (pv 0) (pa_cons pe_int pa_nil))) pe_int (nomark _)) pe_int (pe_op op_mul pe_int (pe_op op_sub (pe_call G__law_take (hr.mono (by decide)) rfl T.g__law_take T.F__law_take.kp T.b__law_take .nil pass0 (pa_cons (pv 0) (pa_cons pe_int pa_nil))) pe_int)))))))), ?_⟩
    refine ⟨_, rfl, t, s, 4, rfl, by decide, by decide, hT, fun r H1 hr0 hr1 hB hT1 => ?_⟩
    have hb1 : H1 bl = some (.lst (nums os)) := (hB bl nbt).trans hb
    refine ⟨fun σ' H' => σ' = [some (.ref t), some (.ref bl), some (.int r)] ∧ H' = H1, ?_, ?_⟩
    · refine ⟨_, rfl, _, _, rfl, rfl, _, rfl, ite2 (fun c => ?_) (fun c => ?_)⟩
      · refine ⟨_, rfl, bl, _, rfl, .inl (SqL.of hb1), _, _, rfl, rfl, _, rfl, ite2 (fun c2 => ?_) (fun c2 => ?_)⟩
        · have h0 : (0 : Int) < ((nums os).length : Int) := of_decide_eq_true c2
          rw [List.length_map] at h0
          refine ⟨_, rfl, _, rfl, _, rfl, bl, _, rfl, .inl (SqL.of hb1), t, s, _, rfl, ?_, ?_, hT1, fun r2 H2 hr2 hr3 hB2 hT2 => ?_⟩
          · rw [List.length_map]
            exact h0
          · rw [List.length_map]
            omega
          · rw [List.length_map] at hr3
            have hk : r2.toNat < os.length := by omega
            refine ⟨bl, _, _, _, rfl, rfl, SqL.of ((hB2 bl nbt).trans hb1), at_ints (j := r2.toNat) (by omega) (List.getElem?_eq_getElem hk), _, _, rfl, rfl, .inl ⟨by decide, by decide⟩, _, _, rfl, rfl, ?_⟩
            exact k _ _ (.inr ⟨_, List.getElem_mem hk, rfl⟩) (hB.trans hB2) hT2
        · exact ⟨rfl, rfl⟩
      · exact iteF ⟨rfl, rfl⟩
    · rintro σ' H' ⟨rfl, rfl⟩
      refine ⟨fun σ' H'' => σ' = [some (.ref t), some (.ref bl), some (.int r)] ∧ H'' = H', ?_, ?_⟩
      · refine ⟨_, rfl, rfl, _, rfl, ite2 (fun c => ?_) (fun c => ?_)⟩
        · refine ⟨_, rfl, t, s, 5, rfl, by decide, by decide, hT1, fun r2 H2 hr2 hr3 hB2 hT2 => ?_⟩
          refine ⟨_, _, rfl, rfl, .inl ⟨by decide, by decide⟩, _, rfl, t, s, 12, rfl, by decide, by decide, hT2, fun r4 H3 hr4 hr5 hB3 hT3 => ?_⟩
          refine ⟨_, _, rfl, rfl, _, _, rfl, rfl, .inl ⟨by decide, by decide⟩, _, _, rfl, rfl, ?_⟩
          exact k _ _ (.inl (by omega)) ((hB.trans hB2).trans hB3) hT3
        · exact ⟨rfl, rfl⟩
      · rintro σ' H'' ⟨rfl, rfl⟩
        refine ⟨_, rfl, t, s, 3, rfl, by decide, by decide, hT1, fun r2 H2 hr2 hr3 hB2 hT2 => ?_⟩
        refine ⟨rfl, _, rfl, ite2 (fun c => ?_) (fun c => ?_)⟩
        · exact k _ _ (.inl (by decide)) (hB.trans hB2) hT2
        · refine ⟨_, rfl, t, s, 100, rfl, by decide, by decide, hT2, fun r4 H3 hr4 hr5 hB3 hT3 => ?_⟩
          refine ⟨_, _, rfl, rfl, _, _, rfl, rfl, .inl ⟨by decide, by decide⟩, ?_⟩
          exact k _ _ (.inl (by omega)) ((hB.trans hB2).trans hB3) hT3
end
end K74

set_option Elab.async false
set_option maxRecDepth 100000
set_option linter.all false
set_option maxHeartbeats 4000000
namespace K74
open PySem L2 GC
section
variable {P : Program} {w : World} {K : PySem.W.Frag} {mg : Str → Option Value} {base : Heap} {A : Adr}
/-- all that stood, but for t, stands -/
def Kp (t : Addr) (H H' : Hp) : Prop := ∀ a o, a ≠ t → H a = some o → H' a = some o
theorem Kp.refl {t : Addr} {H : Hp} : Kp t H H := fun _ _ _ e => e
theorem Kp.but {t : Addr} {H H1 H2 : Hp} (k : Kp t H H1) (b : But t H1 H2) : Kp t H H2 := fun a o n e => (b a n).trans (k a o n e)
theorem Kp.new {t p : Addr} {H H1 : Hp} {o : HO} (k : Kp t H H1) (h : H p = none) : Kp t H (upd H1 p o) := fun a u n e => by
  rw [upd_ne (ne_of_none e h)]
  exact k a u n e
theorem Kp.free {t p : Addr} {H H1 : Hp} (k : Kp t H H1) (h : H1 p = none) (n : p ≠ t) : H p = none := by
  cases e : H p with
  | none => rfl
  | some o =>
    have q := k p o n e
    rw [h] at q
    cases q
theorem Kp.trans {t : Addr} {H H1 H2 : Hp} (a : Kp t H H1) (b : Kp t H1 H2) : Kp t H H2 := fun x o n e => b x o n (a x o n e)
theorem Kp.same {t : Addr} {H H1 H2 : Hp} (a : Kp t H H1) (b : Same H1 H2) : Kp t H H2 := fun x o n e => b x o (a x o n e)
theorem TapeAt.upd {H : Hp} {t s p : Addr} {o : HO} (T : TapeAt H t s) (h1 : p ≠ t) (h2 : p ≠ s) : TapeAt (upd H p o) t s := T.keep fun a u e q => by
  rw [upd_ne]
  · exact e
  · rcases q with q | q
    · rw [q]; exact h1.symm
    · rw [q]; exact h2.symm
theorem TapeAt.at_t {H : Hp} {t s : Addr} (T : TapeAt H t s) : ∃ o, H t = some o := let ⟨_, _, _, _, _, h, _⟩ := T; ⟨_, h⟩
theorem TapeAt.at_s {H : Hp} {t s : Addr} (T : TapeAt H t s) : ∃ o, H s = some o := let ⟨_, _, _, _, _, _, h, _⟩ := T; ⟨_, h⟩
theorem TapeAt.new {H : Hp} {t s p : Addr} {o : HO} (T : TapeAt H t s) (h : H p = none) : TapeAt (L2.upd H p o) t s :=
  let ⟨_, a⟩ := T.at_t
  let ⟨_, b⟩ := T.at_s
  T.upd (ne_of_none a h).symm (ne_of_none b h).symm
theorem small_len {n : Nat} (h : n ≤ 100000) : n ≤ sizeLine := Nat.le_trans h (by decide)
theorem small_lt {n : Nat} (h : n < 100000) : n < sizeLine := Nat.lt_of_lt_of_le h (by decide)
/-- 8 blocks with few fields each are small -/
theorem flat_small {bs : List Blk} (h : ∀ b ∈ bs, b.2.length ≤ 3) : (flat bs).length ≤ 7 * bs.length := by
  induction bs with
  | nil => exact Nat.le_refl _
  | cons b r ih =>
    rw [flat_cons, List.length_append, one_len, List.length_cons]
    have h1 := h b List.mem_cons_self
    have h2 := ih fun c hc => h c (List.mem_cons_of_mem _ hc)
    omega
def spWords : Sp := fun vs H Q _ => ∃ (t s : Addr), vs = [.ref t] ∧ TapeAt H t s ∧
  ∀ (bs : List Blk) (p wd bl : Addr) (H' : Hp), WF bs → bs.length ≤ 8 → H wd = none → H bl = none → wd ≠ bl → H' p = some (.tup [.ref wd, .ref bl]) → H' wd = some (.lst (nums (flat bs))) → H' bl = some (.lst (nums (offs bs))) → Kp t H H' → TapeAt H' t s → Q (.ref p) H'
theorem nums_app (a b : List Int) : nums (a ++ b) = nums a ++ nums b := List.map_append
theorem ok__law_words (T : Txt K mg A) : FnOk P w K mg base CX0 4 A.f__law_words A.d__law_words ["tape"] spWords := by
  have G__law_take : FnOk P w K mg base CX0 2 A.f__law_take A.d__law_take _ _ := ok__law_take T
  have G__law_word : FnOk P w K mg base CX0 3 A.f__law_word A.d__law_word _ _ := ok__law_word T
  refine T.F__law_words.ok sc__law_words (fun vs H Q E h => ?_) (fun cdv Ar outer s H vs Q E hr h => ?_)
  · obtain ⟨t, s, rfl, _⟩ := h
    rfl
  · obtain ⟨t, s, rfl, hT, k⟩ := h
    refine ⟨_, (pss_cons (ps_set (i := 1) sc__law_words.nd rfl (Or.inl rfl) (pe_lst pa_nil)) (pss_cons (ps_set (i := 2) sc__law_words.nd rfl (Or.inl rfl) (pe_lst pa_nil)) (pss_cons (ps_for PassesOwn.never rfl (pi_range1 rfl T.n_range (pa_cons (pe_call G__law_take (hr.mono (by decide)) rfl T.g__law_take T.F__law_take.kp T.b__law_take .nil pass0 (pa_cons (pv 0) (pa_cons pe_int pa_nil))) pa_nil)) (pg_name (i := 3) sc__law_words.nd rfl (Or.inl rfl)) (pss_cons (ps_expr (pe_bm PySem.F.plainAttrs_list PySem.F.slot_list_append PySem.F.type_list_append mt_append (pv 2) (pa_cons (pe_callB call_len_seq (by rfl) T.n_len PySem.boot_len (pa_cons (pv 1) pa_nil)) pa_nil))) (pss_cons (ps_set (i := 4) sc__law_words.nd rfl (Or.inl rfl) (pe_call G__law_take (hr.mono (by decide)) rfl T.g__law_take T.F__law_take.kp T.b__law_take .nil pass0 (pa_cons (pv 0) (pa_cons pe_int pa_nil)))) (pss_cons (ps_expr (pe_bm PySem.F.plainAttrs_list PySem.F.slot_list_extend PySem.F.type_list_extend mt_extend (pv 1) (pa_cons (pe_lst (pa_cons (pe_call G__law_take (hr.mono (by decide)) rfl T.g__law_take T.F__law_take.kp T.b__law_take .nil pass0 (pa_cons (pv 0) (pa_cons pe_int pa_nil))) (pa_cons (pe_call G__law_take (hr.mono (by decide)) rfl T.g__law_take T.F__law_take.kp T.b__law_take .nil pass0 (pa_cons (pv 0) (pa_cons pe_int pa_nil))) (pa_cons (pe_call G__law_take (hr.mono (by decide)) rfl T.g__law_take T.F__law_take.kp T.b__law_take .nil pass0 (pa_cons (pv 0) (pa_cons pe_int pa_nil))) (pa_cons (pv 4) pa_nil))))) pa_nil))) (pss_one (ps_expr (pe_bm PySem.F.plainAttrs_list PySem.F.slot_list_extend PySem.F.type_list_extend mt_extend (pv 1) (pa_cons (pe_lc (own := [("i", 5)]) (g := gName 5) (tt := tYes) rfl sc__law_words.nd (pi_range1 rfl T.n_range (pa_cons (pv 4) pa_nil)) (blkOk_by (N := N__law_words) (sc := defScope s__law_words) (by decide +kernel)) (fun _ _ _ _ _ => (pg_name (i := 5) sc__law_words.nd rfl (Or.inl rfl))) (fun _ _ _ _ _ => pts_nil) (fun _ _ _ _ _ => pe_int)) pa_nil)))))))) (pss_cons (ps_for PassesOwn.never rfl (pi_list (pv 2)) (pg_name (i := 6) sc__law_words.nd rfl (Or.inl rfl)) (pss_one (ps_for PassesOwn.never rfl (pi_range1 rfl T.n_range (pa_cons (pe_ix (ixl (K := K) rfl) (pv 1) (pe_op op_add (pv 6) pe_int) (fun _ _ => rfl)) pa_nil)) (pg_name (i := 5) sc__law_words.nd rfl (Or.inl rfl)) (pss_one (ps_asg (pe_call G__law_word (hr.mono (by decide)) rfl T.g__law_word T.F__law_word.kp T.b__law_word .nil pass0 (pa_cons (pv 0) (pa_cons (pv 2) pa_nil))) (pg_sub (pv 1) (pe_op op_add (pe_op op_add (pv 6) pe_int) (pv 5)) set_list)))))) (pss_one (ps_ret (pe_tup (pa_cons (pv 1) (pa_cons (pv 2) pa_nil))))))))), ?_⟩
    refine ⟨Nat.zero_le _, fun wd hwd => ⟨Nat.zero_le _, fun bl hbl => ?_⟩⟩
    have nwb : wd ≠ bl := ne_of_none upd_same hbl
    have hbl0 : H bl = none := by rw [upd_ne nwb.symm] at hbl; exact hbl
    obtain ⟨ot, et⟩ := hT.at_t
    obtain ⟨os, es⟩ := hT.at_s
    have nwt : wd ≠ t := (ne_of_none et hwd).symm
    have nws : wd ≠ s := (ne_of_none es hwd).symm
    have nbt : bl ≠ t := (ne_of_none et hbl0).symm
    have nbs : bl ≠ s := (ne_of_none es hbl0).symm
    refine ⟨_, rfl, t, s, 9, rfl, by decide, by decide, (hT.upd nwt nws).upd nbt nbs, fun r H2 hr0 hr1 hB hT2 => ⟨r, rfl, by omega, by omega, for_range (lo := 0) (n := r.toNat) (fun i σ H' => ∃ (bs : List Blk) (v3 v4 : Option V), σ = [some (.ref t), some (.ref wd), some (.ref bl), v3, v4, none, none] ∧ bs.length = i ∧ (∀ b ∈ bs, b.2.length ≤ 3 ∧ ∀ x ∈ b.2, x = 0) ∧
      H' wd = some (.lst (nums (flat bs))) ∧ H' bl = some (.lst (nums (offs bs))) ∧ Kp t H H' ∧ TapeAt H' t s) ?_ ?_ ?_⟩⟩
    · refine ⟨[], none, none, rfl, rfl, fun _ h => (nomatch h), ?_, ?_, ((Kp.refl.new hwd).new hbl0).but hB, hT2⟩
      · rw [hB _ nwt, upd_ne nwb, upd_same]; rfl
      · rw [hB _ nbt, upd_same]; rfl
    · rintro i σ H3 hi ⟨bs, v3, v4, rfl, hbi, hz, hw, hb, hk, hT3⟩
      have hfl := flat_small fun b hb => (hz b hb).1
      have hsm : (nums (flat bs)).length ≤ 100 := by rw [List.length_map]; omega
      -- blocks.append(len(words))
      refine ⟨_, rfl, .inl ⟨rfl, _, SqL.of hb⟩, _, rfl, wd, _, rfl, .inl (SqL.of hw), bl, _, _, rfl, rfl, hb, small_lt (by rw [List.length_map]; unfold offs; rw [List.length_map, List.length_range]; omega), ?_⟩
      -- count
      refine ⟨_, rfl, t, s, 4, rfl, by decide, by decide, hT3.upd nbt nbs, fun c H4 hc0 hc1 hB4 hT4 => ?_⟩
      -- words.extend([.., count])
      have hw4 : H4 wd = some (.lst (nums (flat bs))) := by rw [hB4 _ nwt, upd_ne nwb]; exact hw
      refine ⟨_, rfl, .inl ⟨rfl, _, SqL.of hw4⟩, _, rfl, t, s, 7, rfl, by decide, by decide, hT4, fun x H5 _ _ hB5 hT5 => ⟨_, rfl, t, s, 9, rfl, by decide, by decide, hT5, fun y H6 _ _ hB6 hT6 => ⟨_, rfl, t, s, 12, rfl, by decide, by decide, hT6, fun z H7 _ _ hB7 hT7 => ?_⟩⟩⟩
      have hw7 : H7 wd = some (.lst (nums (flat bs))) := by rw [hB7 _ nwt, hB6 _ nwt, hB5 _ nwt]; exact hw4
      have hb7 : H7 bl = some (.lst (nums (offs bs) ++ [.int ((nums (flat bs)).length : Int)])) := by rw [hB7 _ nbt, hB6 _ nbt, hB5 _ nbt, hB4 _ nbt, upd_same]
      have hk7 : Kp t H H7 := ((((hk.new hbl0).but hB4).but hB5).but hB6).but hB7
      refine ⟨_, rfl, (show 4 ≤ sizeLine by decide), fun l hl => ?_⟩
      have nlw : wd ≠ l := ne_of_none hw7 hl
      refine ⟨wd, l, _, _, rfl, rfl, Eq.trans (upd_ne nlw) hw7, upd_same, small_len (by simp only [List.length_cons, List.length_nil]; omega), ?_⟩
      -- words.extend([0 for i in range(count)])
      have hT8 : TapeAt (upd (upd H7 l (.lst [.int x, .int y, .int z, .int c])) wd (.lst (nums (flat bs) ++ [.int x, .int y, .int z, .int c]))) t s := (hT7.new hl).upd nwt nws
      refine ⟨_, rfl, .inl ⟨rfl, _, SqL.of upd_same⟩, _, rfl, c, rfl, by omega, by omega, fun D hD => ?_⟩
      have nDw : wd ≠ D := ne_of_none upd_same hD
      refine lc_range (lo := 0) (n := c.toNat) (fun i H' => H' = upd (upd (upd H7 l (.lst [.int x, .int y, .int z, .int c])) wd (.lst (nums (flat bs) ++ [.int x, .int y, .int z, .int c]))) D (.lst (List.replicate i (.int 0)))) rfl (fun i H' hi e => ?_) (fun H' e => ?_)
      · subst e
        refine ⟨rfl, ?_⟩
        show ∃ acc : List V, _ ∧ _ ∧ _
        refine ⟨_, upd_same, small_lt (by rw [List.length_replicate]; omega), ?_⟩
        rw [upd_upd, List.replicate_succ']
      · subst e
        refine ⟨wd, D, _, _, rfl, rfl, Eq.trans (upd_ne nDw) upd_same, upd_same, small_len (by simp only [List.length_append, List.length_cons, List.length_nil, List.length_replicate]; omega), ?_⟩
        have hD7 : H7 D = none := by
          rw [upd_ne nDw.symm] at hD
          have : D ≠ l := (ne_of_none upd_same hD).symm
          rw [upd_ne this] at hD
          exact hD
        have hl0 : H l = none := hk7.free hl (fun q => by
          obtain ⟨o, e⟩ := hT7.at_t
          rw [q, e] at hl
          cases hl)
        have hD0 : H D = none := hk7.free hD7 (fun q => by
          obtain ⟨o, e⟩ := hT7.at_t
          rw [q, e] at hD7
          cases hD7)
        refine ⟨bs ++ [((x, y, z), List.replicate c.toNat 0)], _, _, rfl, by simp [hbi], fun b hb => ?_, ?_, ?_, (((hk7.new hl0).new hwd).new hD0).new hwd, (hT8.new hD).upd nwt nws⟩
        · rcases List.mem_append.mp hb with q | q
          · exact hz b q
          · have e : b = ((x, y, z), List.replicate c.toNat 0) := by simpa using q
            subst e
            refine ⟨by show (List.replicate c.toNat (0 : Int)).length ≤ 3; rw [List.length_replicate]; omega, fun v hv => (List.mem_replicate.mp hv).2⟩
        · rw [upd_same, flat_append, flat_one]
          simp [one, nums, Int.toNat_of_nonneg hc0]
        · have nbl : bl ≠ l := ne_of_none hb7 hl
          have nbD : bl ≠ D := ne_of_none hb7 hD7
          rw [upd_ne nwb.symm, upd_ne nbD, upd_ne nwb.symm, upd_ne nbl, hb7, offs_add, nums_app, List.length_map]
          rfl
    · rintro σ H3 ⟨bs, v3, v4, rfl, hbi, hz, hw, hb, hk, hT3⟩
      have hos : (offs bs).length = bs.length := by unfold offs; rw [List.length_map, List.length_range]
      have h8 : bs.length ≤ 8 := by omega
      refine ⟨_, rfl, bl, rfl, ⟨_, SqL.of hb⟩, for_list (K := K) (a := bl) (xs := nums (offs bs)) (fun i σ H' => ∃ (cs : List Blk) (v3 v4 v5 v6 : Option V), σ = [some (.ref t), some (.ref wd), some (.ref bl), v3, v4, v5, v6] ∧ cs.map (·.2.length) = bs.map (·.2.length) ∧ (∀ b ∈ cs, b.2.length ≤ 3 ∧ ∀ x ∈ b.2, GoodO (offs bs) x) ∧
        H' wd = some (.lst (nums (flat cs))) ∧ H' bl = some (.lst (nums (offs bs))) ∧ Kp t H H' ∧ TapeAt H' t s) ?_ (fun i σ H' _ h => ?_) ?_ ?_⟩
      · exact ⟨bs, v3, v4, none, none, rfl, rfl, fun b hb => ⟨(hz b hb).1, fun x hx => .inl (by rw [(hz b hb).2 x hx]; decide)⟩, hw, hb, hk, hT3⟩
      · obtain ⟨_, _, _, _, _, _, _, _, _, h, _⟩ := h
        exact SqL.of h
      · rintro i y σ H4 hi ⟨cs, v3, v4, v5, v6, rfl, hlen, hg, hw4, hb4, hk4, hT4⟩
        have hib : i < bs.length := by
          have := (List.getElem?_eq_some_iff.mp hi).1
          rw [List.length_map, hos] at this
          exact this
        have hlc : cs.length = bs.length := by simpa using congrArg List.length hlen
        rw [List.getElem?_map, offs_get hib] at hi
        cases hi
        obtain ⟨c, ec⟩ : ∃ c, cs[i]? = some c := ⟨_, List.getElem?_eq_getElem (by rw [hlc]; exact hib)⟩
        have eo : off cs i = off bs i := off_congr hlen i
        have hc3 := (hg c (List.mem_of_getElem? ec)).1
        refine ⟨_, rfl, _, rfl, _, _, rfl, rfl, wd, _, _, _, rfl, rfl, SqL.of hw4, at_ints (j := off cs i + 3) (by rw [eo]; omega) (get_cnt ec), (c.2.length : Int), rfl, by omega, by omega, ?_⟩
        refine for_range (lo := 0) (n := ((c.2.length : Int)).toNat) (fun n σ H' => ∃ (cs : List Blk) (v3 v4 v5 : Option V), σ = [some (.ref t), some (.ref wd), some (.ref bl), v3, v4, v5, some (.int (off bs i : Int))] ∧ cs.map (·.2.length) = bs.map (·.2.length) ∧ (∀ b ∈ cs, b.2.length ≤ 3 ∧ ∀ x ∈ b.2, GoodO (offs bs) x) ∧
          (∃ c', cs[i]? = some c' ∧ c'.2.length = c.2.length) ∧ H' wd = some (.lst (nums (flat cs))) ∧ H' bl = some (.lst (nums (offs bs))) ∧ Kp t H H' ∧ TapeAt H' t s) ⟨cs, v3, v4, v5, rfl, hlen, hg, ⟨c, ec, rfl⟩, hw4, hb4, hk4, hT4⟩ ?_ ?_
        · rintro n σ H5 hn ⟨cs, v3, v4, v5, rfl, hlen, hg, ⟨c', ec', hcl⟩, hw5, hb5, hk5, hT5⟩
          have eo : off cs i = off bs i := off_congr hlen i
          refine ⟨_, rfl, _, rfl, t, s, bl, offs bs, rfl, hT5, hb5, by rw [hos]; omega, fun x H6 gx hB6 hT6 => ?_⟩
          have hw6 : H6 wd = some (.lst (nums (flat cs))) := (hB6 _ nwt).trans hw5
          have hnc : n < c'.2.length := by omega
          have hfl := flat_len ec'
          refine ⟨_, rfl, _, rfl, _, _, rfl, rfl, _, rfl, _, _, rfl, rfl, wd, _, _, off cs i + 4 + n, rfl, rfl, hw6, ?_, ?_⟩
          · rw [show (off bs i : Int) + 4 + (0 + (n : Int)) = ((off cs i + 4 + n : Nat) : Int) by rw [eo]; omega]
            exact ixN_nat (by rw [List.length_map]; omega)
          · refine ⟨cs.set i (c'.1, c'.2.set n x), _, _, _, rfl, ?_, fun b hb => ?_, ⟨_, List.getElem?_set_self (List.getElem?_eq_some_iff.mp ec').1, by simp [hcl]⟩, ?_, ?_, (hk5.but hB6).new hwd, hT6.upd nwt nws⟩
            · rw [lens_set ec' (by simp)]; exact hlen
            · rcases List.mem_or_eq_of_mem_set hb with q | q
              · exact hg b q
              · subst q
                have hg' := hg c' (List.mem_of_getElem? ec')
                refine ⟨by simpa using hg'.1, fun y hy => ?_⟩
                rcases List.mem_or_eq_of_mem_set hy with q | q
                · exact hg'.2 y q
                · subst q
                  exact gx
            · rw [upd_same, ← set_fld ec' n hnc x]
              show _ = some (HO.lst (List.map V.int _))
              rw [List.map_set]
            · rw [upd_ne nwb.symm, hB6 _ nbt]; exact hb5
        · rintro σ H5 ⟨cs, v3, v4, v5, rfl, hlen, hg, _, hw5, hb5, hk5, hT5⟩
          exact ⟨cs, v3, v4, v5, _, rfl, hlen, hg, hw5, hb5, hk5, hT5⟩
      · rintro σ H4 ⟨cs, v3, v4, v5, v6, rfl, hlen, hg, hw4, hb4, hk4, hT4⟩
        have hlc : cs.length = bs.length := by simpa using congrArg List.length hlen
        refine ⟨_, rfl, _, rfl, (show 2 ≤ sizeLine by decide), fun p hp => ?_⟩
        have nwp : wd ≠ p := ne_of_none hw4 hp
        have nbp : bl ≠ p := ne_of_none hb4 hp
        have eos : offs cs = offs bs := offs_congr hlen
        refine k cs p wd bl _ ⟨fun b hb => (hg b hb).1, fun b hb x hx => GoodO.good (by rw [eos]; exact (hg b hb).2 x hx)⟩ (by omega) hwd hbl0 nwb upd_same ?_ ?_ (fun a o n e => ?_) (hT4.new hp)
        · rw [upd_ne nwp]; exact hw4
        · rw [upd_ne nbp, eos]; exact hb4
        · have q := hk4 a o n e
          rw [upd_ne (ne_of_none q hp)]
          exact q
end
end K74

set_option Elab.async false
set_option maxRecDepth 100000
set_option linter.all false
set_option maxHeartbeats 4000000
namespace K74
open PySem L2 GC
section
variable {P : Program} {w : World} {K : PySem.W.Frag} {mg : Str → Option Value} {base : Heap} {A : Adr}
theorem cut_nat {xs : List V} {i j : Nat} (h : i ≤ j) (hj : j ≤ xs.length) : cutV xs (some (i : Int)) (some (j : Int)) = (xs.drop i).take (j - i) := by
  unfold cutV
  rw [HT.sIx_nat, HT.sIx_nat, Nat.min_eq_left hj, Nat.min_eq_left (Nat.le_trans h hj)]
theorem cut_ints {ns : List Int} {i j : Nat} {a b : Int} (ea : a = (i : Int)) (eb : b = (j : Int)) (h : i ≤ j) (hj : j ≤ ns.length) : cutV (nums ns) (some a) (some b) = nums ((ns.drop i).take (j - i)) := by
  rw [ea, eb]
  have q : cutV (nums ns) (some (i : Int)) (some (j : Int)) = nums ((ns.drop i).take (j - i)) := by
    rw [cut_nat h (by rw [List.length_map]; exact hj)]
    simp only [nums, List.map_drop, List.map_take]
  exact q
theorem dec_one {x : Int} : decide (V.int x = V.int 1) = true ↔ x = 1 := by
  rw [decide_eq_true_iff]
  exact ⟨fun e => V.int.inj e, fun e => by rw [e]⟩
def spIsB : Sp := fun vs H Q _ => ∃ x : Int, vs = [.int x] ∧ ∀ b : Bool, (b = true ↔ x % 4 = 1) → Q (.bl b) H
theorem ok_is_block (T : Txt K mg A) : FnOk P w K mg base CX0 1 A.f_is_block A.d_is_block ["word"] spIsB := by
  refine T.F_is_block.ok sc_is_block (fun vs H Q E h => ?_) (fun cdv Ar outer s H vs Q E hr h => ?_)
  · obtain ⟨x, rfl, _⟩ := h
    rfl
  · obtain ⟨x, rfl, k⟩ := h
    refine ⟨_, (pss_one (ps_ret (pe_cmpR op_eq (pe_op op_mod (pv 0) pe_int) pe_int (nomark _)))), ?_⟩
    exact ⟨_, rfl, _, _, rfl, rfl, (show (0 : Int) < 4 by decide), rfl, k _ dec_one⟩
/-- the collection as it stands -/
structure Coll (bs : List Blk) (ks : List Nat) (sc : Nat → Nat) (nb : List Blk) (ws sp mv : Addr) (H : Hp) : Prop where
  S : Space bs ks sc nb
  hw : H ws = some (.lst (nums (flat bs)))
  hs : H sp = some (.lst (nums (flat nb)))
  ne : ws ≠ sp
  hm : ∃ kvs : List (Key × V), H mv = some (.dK kvs) ∧ kvs.length ≤ ks.length ∧ ∀ j, j < bs.length → (∀ i : Nat, ks[i]? = some j → valV kvs (Sum.inl (off bs j : Int)) = some (.int (off (sel bs ks) i : Int))) ∧ (j ∉ ks → valV kvs (Sum.inl (off bs j : Int)) = none)
def Kp2 (a b : Addr) (H H' : Hp) : Prop := ∀ c o, c ≠ a → c ≠ b → H c = some o → H' c = some o
theorem Kp2.refl {a b : Addr} {H : Hp} : Kp2 a b H H := fun _ _ _ _ e => e
theorem Kp2.trans {a b : Addr} {H H1 H2 : Hp} (x : Kp2 a b H H1) (y : Kp2 a b H1 H2) : Kp2 a b H H2 := fun c o n m e => y c o n m (x c o n m e)
/-- nothing more, or one block more -/
def Grow (bs : List Blk) (x : Int) (ks ks' : List Nat) (nb nb' : List Blk) : Prop := (ks' = ks ∧ nb' = nb) ∨ ∃ j b, Ptr bs x j ∧ bs[j]? = some b ∧ j ∉ ks ∧ ks' = ks ++ [j] ∧ nb' = nb ++ [b]
def spCopy : Sp := fun vs H Q _ => ∃ (ws sp mv : Addr) (a x : Int) (bs : List Blk) (ks : List Nat) (sc : Nat → Nat) (nb : List Blk) (j : Nat), vs = [.ref ws, .int a, .ref sp, .ref mv] ∧ a = (off bs j : Int) ∧ Ptr bs x j ∧ Coll bs ks sc nb ws sp mv H ∧ WF bs ∧ bs.length ≤ 8 ∧ sc ks.length = 0 ∧
  ∀ (y : Int) (ks' : List Nat) (nb' : List Blk) (H' : Hp), Mv bs ks' x y → Grow bs x ks ks' nb nb' → Coll bs ks' sc nb' ws sp mv H' → Kp2 sp mv H H' → Q (.int y) H'
theorem ok_copy_block (T : Txt K mg A) : FnOk P w K mg base CX0 2 A.f_copy_block A.d_copy_block ["words", "address", "space", "moved"] spCopy := by
  refine T.F_copy_block.ok sc_copy_block (fun vs H Q E h => ?_) (fun cdv Ar outer s H vs Q E hr h => ?_)
  · obtain ⟨ws, sp, mv, a, x, bs, ks, sc, nb, j, rfl, _⟩ := h
    rfl
  · obtain ⟨ws, sp, mv, a, x, bs, ks, sc, nb, j, rfl, ea, hp, C, wf, h8, h0, k⟩ := h
    subst ea
    obtain ⟨kvs, hm, hkl, hk⟩ := C.hm
    obtain ⟨b, eb⟩ : ∃ b, bs[j]? = some b := ⟨_, List.getElem?_eq_getElem hp.1⟩
    have hb3 := (wf.at eb).1
    have nmw : ws ≠ mv := ne_of C.hw hm (by intro z; cases z)
    have nms : sp ≠ mv := ne_of C.hs hm (by intro z; cases z)
    have hks := C.S.few
    have hfb := flat_small wf.few
    have hfn : (flat nb).length ≤ 7 * nb.length := flat_small fun c hc => by
      obtain ⟨i, hi, e⟩ := List.mem_iff_getElem.mp hc
      have hi' : i < ks.length := by rw [← C.S.len]; exact hi
      have hj := C.S.lt _ (List.getElem_mem hi')
      obtain ⟨c', ec, r⟩ := C.S.blk i _ _ (List.getElem?_eq_getElem hi') (List.getElem?_eq_getElem hj)
      rw [List.getElem?_eq_getElem hi, e] at ec
      cases ec
      rw [r.len]
      exact wf.few _ (List.getElem_mem hj)
    have hnl := C.S.len
    refine ⟨_, (pss_cons (ps_if (pt_cmp (pc_dnotin (hu_of hr) (pv 1) (pv 3))) (pss_cons (ps_dput (hu_of hr) (pv 3) (pv 1) (pe_callB call_len_seq (by rfl) T.n_len PySem.boot_len (pa_cons (pv 2) pa_nil)) rfl) (pss_one (ps_expr (pe_bm PySem.F.plainAttrs_list PySem.F.slot_list_extend PySem.F.type_list_extend mt_extend (pv 2) (pa_cons (pe_slice sl_list (pv 0) (po_some (pv 1)) (po_some (pe_op op_add (pe_op op_add (pv 1) (pe_glob (v := .int 4) rfl T.g_HEADER ⟨_, rfl⟩)) (pe_ix (ixl (K := K) rfl) (pv 0) (pe_op op_add (pv 1) pe_int) (fun _ _ => rfl))))) pa_nil))))) pss_nil) (pss_one (ps_ret (pe_op op_add (pe_op op_mul pe_int (pe_dget (hu_of hr) (pv 3) (pv 1) (fun _ _ => rfl))) pe_int)))), ?_⟩
    by_cases hj : j ∈ ks
    · obtain ⟨i, hi, e⟩ := List.mem_iff_getElem.mp hj
      have ei : ks[i]? = some j := by rw [List.getElem?_eq_getElem hi, e]
      have hv := (hk j hp.1).1 i ei
      refine ⟨_, rfl, _, rfl, mv, some (.int (off (sel bs ks) i : Int)), rfl, (by rw [← hv]; exact DGet.k (k := Sum.inl (off bs j : Int)) hm), _, rfl, ?_⟩
      refine iteF ?_
      refine ⟨_, rfl, _, rfl, mv, _, rfl, (by rw [← hv]; exact DGet.k (k := Sum.inl (off bs j : Int)) hm), _, _, rfl, rfl, .inl ⟨by decide, by decide⟩, _, _, rfl, rfl, ?_⟩
      exact k _ ks nb H (.inr ⟨j, i, hp, ei, rfl⟩) (.inl ⟨rfl, rfl⟩) C Kp2.refl
    · have hv := (hk j hp.1).2 hj
      refine ⟨_, rfl, _, rfl, mv, none, rfl, (by rw [← hv]; exact DGet.k (k := Sum.inl (off bs j : Int)) hm), _, rfl, ?_⟩
      refine iteT (B := _) ?_
      refine ⟨_, rfl, sp, _, rfl, .inl (SqL.of C.hs), _, rfl, _, rfl, mv, _, rfl, DPut.k (k := Sum.inl (off bs j : Int)) hm (small_lt (by omega)), ?_⟩
      have hw1 : ∀ o : HO, (upd H mv o) ws = some (.lst (nums (flat bs))) := fun o => by rw [upd_ne nmw]; exact C.hw
      have hs1 : ∀ o : HO, (upd H mv o) sp = some (.lst (nums (flat nb))) := fun o => by rw [upd_ne nms]; exact C.hs
      have hfl := flat_len eb
      refine ⟨_, rfl, .inl ⟨rfl, _, SqL.of (hs1 _)⟩, _, rfl, _, rfl, _, rfl, _, rfl, _, _, rfl, rfl, _, rfl, _, rfl, _, _, rfl, rfl, ws, _, _, _, rfl, rfl, SqL.of (hw1 _), at_ints (j := off bs j + 3) (by omega) (get_cnt eb), _, _, rfl, rfl, _, rfl, ws, _, rfl, SqL.of (hw1 _), fun p hp' => ?_⟩
      have nsp : sp ≠ p := ne_of_none (hs1 _) hp'
      have nmp : mv ≠ p := ne_of_none upd_same hp'
      have nwp : ws ≠ p := ne_of_none (hw1 _) hp'
      have ecut : cutV (nums (flat bs)) (some (off bs j : Int)) (some ((off bs j : Int) + 4 + (b.2.length : Int))) = nums (one b) := by
        rw [cut_ints (i := off bs j) (j := off bs j + 4 + b.2.length) rfl (by omega) (by omega) hfl, show off bs j + 4 + b.2.length - off bs j = 4 + b.2.length by omega, cut_all eb]
      refine ⟨sp, p, _, _, rfl, rfl, Eq.trans (upd_ne nsp) (hs1 _), upd_same, small_len ?_, ?_⟩
      · rw [ecut, List.length_map, List.length_map, one_len]
        omega
      · rw [ecut]
        have hmv : (upd (upd (upd H mv (.dK (putK kvs (Sum.inl (off bs j : Int)) (.int ((nums (flat nb)).length : Int))))) p (.lst (nums (one b)))) sp (.lst (nums (flat nb) ++ nums (one b)))) mv = some (.dK (putK kvs (Sum.inl (off bs j : Int)) (.int ((nums (flat nb)).length : Int)))) := by
          rw [upd_ne nms.symm, upd_ne nmp, upd_same]
        have hvn : valV (putK kvs (Sum.inl (off bs j : Int) : Key) (.int ((nums (flat nb)).length : Int))) (Sum.inl (off bs j : Int)) = some (.int ((nums (flat nb)).length : Int)) := by
          rw [valV_put, if_pos rfl]
        have elen : ((nums (flat nb)).length : Int) = (off (sel bs (ks ++ [j])) ks.length : Int) := by
          rw [List.length_map, noff_app (Nat.le_refl _), ← C.S.off, ← C.S.len, off_len]
        refine ⟨_, rfl, _, rfl, mv, _, rfl, (by rw [← hvn]; exact DGet.k (k := Sum.inl (off bs j : Int)) hmv), _, _, rfl, rfl, .inl ⟨by decide, by decide⟩, _, _, rfl, rfl, ?_⟩
        refine k _ (ks ++ [j]) (nb ++ [b]) _ ?_ (.inr ⟨j, b, hp, eb, hj, rfl, rfl⟩) ⟨C.S.add eb hj h0, ?_, ?_, C.ne, _, hmv, ?_, ?_⟩ (fun c o n m e => ?_)
        · refine .inr ⟨j, ks.length, hp, ?_, by rw [elen]⟩
          rw [List.getElem?_append_right (Nat.le_refl _), Nat.sub_self]
          rfl
        · rw [upd_ne C.ne, upd_ne nwp]
          exact hw1 _
        · rw [upd_same, flat_append, flat_one, nums_app]
        · have := length_putK kvs (Sum.inl (off bs j : Int) : Key) (.int ((nums (flat nb)).length : Int))
          rw [List.length_append, List.length_singleton]
          omega
        · intro l hl
          rw [valV_put]
          by_cases q : l = j
          · subst q
            refine ⟨fun i hi => ?_, fun n => absurd (List.mem_append_right _ (by simp)) n⟩
            rw [if_pos rfl]
            have hi2 : i = ks.length := by
              have hlt := (List.getElem?_eq_some_iff.mp hi).1
              rw [List.length_append, List.length_singleton] at hlt
              by_cases z : i < ks.length
              · rw [List.getElem?_append_left z] at hi
                exact absurd (List.mem_of_getElem? hi) hj
              · omega
            subst hi2
            rw [elen]
          · have nq : ¬ (Sum.inl (off bs l : Int) : Key) = Sum.inl (off bs j : Int) := fun z => by
              have z2 : (off bs l : Int) = (off bs j : Int) := Sum.inl.inj z
              exact q (off_inj hl hp.1 (by omega))
            rw [if_neg nq]
            refine ⟨fun i hi => ?_, fun n => (hk l hl).2 fun z => n (List.mem_append_left _ z)⟩
            have hlt := (List.getElem?_eq_some_iff.mp hi).1
            rw [List.length_append, List.length_singleton] at hlt
            have z : i < ks.length := by
              rcases Nat.lt_or_ge i ks.length with z | z
              · exact z
              · have : i = ks.length := by omega
                subst this
                rw [List.getElem?_append_right (Nat.le_refl _), Nat.sub_self] at hi
                have : j = l := by simpa using hi
                exact absurd this.symm q
            rw [List.getElem?_append_left z] at hi
            rw [(hk l hl).1 i hi, noff_app (Nat.le_of_lt z)]
        · have np : c ≠ p := fun q => by
            rw [upd_ne nmp.symm] at hp'
            rw [q, hp'] at e
            cases e
          rw [upd_ne n, upd_ne np, upd_ne m]
          exact e
def spMove : Sp := fun vs H Q _ => ∃ (ws sp mv : Addr) (x : Int) (bs : List Blk) (ks : List Nat) (sc : Nat → Nat) (nb : List Blk), vs = [.ref ws, .int x, .ref sp, .ref mv] ∧ Good bs x ∧ Coll bs ks sc nb ws sp mv H ∧ WF bs ∧ bs.length ≤ 8 ∧ sc ks.length = 0 ∧
  ∀ (y : Int) (ks' : List Nat) (nb' : List Blk) (H' : Hp), Mv bs ks' x y → Grow bs x ks ks' nb nb' → Coll bs ks' sc nb' ws sp mv H' → Kp2 sp mv H H' → Q (.int y) H'
theorem ok_move_word (T : Txt K mg A) : FnOk P w K mg base CX0 3 A.f_move_word A.d_move_word ["words", "word", "space", "moved"] spMove := by
  have G_is_block : FnOk P w K mg base CX0 1 A.f_is_block A.d_is_block _ _ := ok_is_block T
  have G_copy_block : FnOk P w K mg base CX0 2 A.f_copy_block A.d_copy_block _ _ := ok_copy_block T
  refine T.F_move_word.ok sc_move_word (fun vs H Q E h => ?_) (fun cdv Ar outer s H vs Q E hr h => ?_)
  · obtain ⟨ws, sp, mv, x, bs, ks, sc, nb, rfl, _⟩ := h
    rfl
  · obtain ⟨ws, sp, mv, x, bs, ks, sc, nb, rfl, hg, C, wf, h8, h0, k⟩ := h
    refine ⟨_, (pss_one (ps_ret (pe_ifExp (pt_val (pe_call G_is_block (hr.mono (by decide)) rfl T.g_is_block T.F_is_block.kp T.b_is_block .nil pass0 (pa_cons (pv 1) pa_nil)) (by intro _; rfl)) (pe_call G_copy_block (hr.mono (by decide)) rfl T.g_copy_block T.F_copy_block.kp T.b_copy_block .nil pass0 (pa_cons (pv 0) (pa_cons (pe_op op_fdiv (pv 1) pe_int) (pa_cons (pv 2) (pa_cons (pv 3) pa_nil))))) (pv 1)))), ?_⟩
    refine ⟨_, rfl, x, rfl, fun b hb => ⟨_, rfl, ite2 (fun c => ?_) (fun c => ?_)⟩⟩
    · obtain ⟨j, p⟩ := hg.ptr (hb.mp c)
      refine ⟨_, rfl, _, rfl, _, _, rfl, rfl, ⟨by decide, by decide⟩, _, rfl, _, rfl, ws, sp, mv, _, x, bs, ks, sc, nb, j, rfl, p.div, p, C, wf, h8, h0, k⟩
    · refine ⟨_, rfl, k _ ks nb H (.inl ⟨fun q => c (hb.mpr q), rfl⟩) (.inl ⟨rfl, rfl⟩) C Kp2.refl⟩
end
end K74

set_option Elab.async false
set_option maxRecDepth 100000
set_option linter.all false
set_option maxHeartbeats 4000000
namespace K74
open PySem L2 GC
section
variable {P : Program} {w : World} {K : PySem.W.Frag} {mg : Str → Option Value} {base : Heap} {A : Adr}
theorem tYes_do {σ : L2.St} {H : Hp} {f g : Hp → Prop} (h : f H) : tYes σ H (fun b H3 => if b = true then f H3 else g H3) := by
  show (if true = true then f H else g H)
  rw [if_pos rfl]
  exact h
def spCollect (K : PySem.W.Frag) : Sp := fun vs H Q _ => ∃ (ws rt : Addr) (bs : List Blk) (rs : List Int), vs = [.ref ws, .ref rt] ∧ WF bs ∧ bs.length ≤ 8 ∧ (∀ x ∈ rs, Good bs x) ∧ rs.length ≤ 1000 ∧ H ws = some (.lst (nums (flat bs))) ∧ H rt = some (.lst (nums rs)) ∧
  ∀ (ks : List Nat) (nb : List Blk) (ns : List Int) (p sp nr : Addr) (H' : Hp), Done bs rs ks nb ns → H' p = some (.tup [.ref sp, .ref nr]) → H' sp = some (.lst (nums (flat nb))) → H' nr = some (.lst (nums ns)) → H p = none → H sp = none → H nr = none → Same H H' → Q (.ref p) H'
/-- how far the blocks have come: the first i wholly, block i by t fields -/
def prog (i t : Nat) : Nat → Nat := fun k => if k < i then 3 else if k = i then t else 0
/-- the closure -/
theorem closed {bs nb : List Blk} {rs ns : List Int} {ks : List Nat} (wf : WF bs) (R : ∀ x ∈ rs, Good bs x) (S : Space bs ks (fun _ => 3) nb) (hr : ∀ (i : Nat) (x : Int), rs[i]? = some x → ∃ y, ns[i]? = some y ∧ Mv bs ks x y) (hl : ns.length = rs.length)
    (hm : ∀ j ∈ ks, Reach bs rs (4 * (off bs j : Int) + 1)) : Done bs rs ks nb ns := by
  refine ⟨S, fun j => ⟨fun h => ⟨S.lt j h, hm j h⟩, fun h => ?_⟩, hl, hr⟩
  have key : ∀ x, Reach bs rs x → ∀ j, Ptr bs x j → j ∈ ks := by
    intro x hx
    induction hx with
    | @root x m q =>
      intro j p
      obtain ⟨k, hk, ek⟩ := List.mem_iff_getElem.mp m
      obtain ⟨y, _, mv⟩ := hr k x (by rw [List.getElem?_eq_getElem hk, ek])
      obtain ⟨j', i, p', e, _⟩ := mv.ptr q
      rw [p.inj p']
      exact List.mem_of_getElem? e
    | @step u x i b _ pu eb m q ih =>
      intro j p
      obtain ⟨l, hl, el⟩ := List.mem_iff_getElem.mp (ih i pu)
      obtain ⟨c, ec, r⟩ := S.blk l i b (by rw [List.getElem?_eq_getElem hl, el]) eb
      obtain ⟨k, hk, ek⟩ := List.mem_iff_getElem.mp m
      have h3 := (wf.at eb).1
      obtain ⟨y, _, mv⟩ := r.mv k x (by omega) (by rw [List.getElem?_eq_getElem hk, ek])
      obtain ⟨j', i', p', e, _⟩ := mv.ptr q
      rw [p.inj p']
      exact List.mem_of_getElem? e
  exact key _ h.2 j ⟨h.1, rfl⟩
theorem Grow.keys {bs : List Blk} {rs : List Int} {x : Int} {ks ks' : List Nat} {nb nb' : List Blk} (g : Grow bs x ks ks' nb nb') (hx : x % 4 = 1 → Reach bs rs x) (h : ∀ j ∈ ks, Reach bs rs (4 * (off bs j : Int) + 1)) : ∀ j ∈ ks', Reach bs rs (4 * (off bs j : Int) + 1) := by
  rcases g with ⟨e, _⟩ | ⟨j, b, p, _, _, e, _⟩
  · subst e
    exact h
  · subst e
    intro i hi
    rcases List.mem_append.mp hi with q | q
    · exact h i q
    · have : i = j := by simpa using q
      subst this
      rw [← p.2]
      exact hx p.mod
theorem Grow.mv {bs : List Blk} {x u v : Int} {ks ks' : List Nat} {nb nb' : List Blk} (g : Grow bs x ks ks' nb nb') (h : Mv bs ks u v) : Mv bs ks' u v := by
  rcases g with ⟨e, _⟩ | ⟨j, b, p, _, _, e, _⟩
  · subst e
    exact h
  · subst e
    exact h.mono _
theorem Grow.get {bs : List Blk} {x : Int} {ks ks' : List Nat} {nb nb' : List Blk} (g : Grow bs x ks ks' nb nb') {i : Nat} {c : Blk} (h : nb[i]? = some c) : nb'[i]? = some c := by
  rcases g with ⟨_, e⟩ | ⟨j, b, p, _, _, _, e⟩
  · subst e
    exact h
  · subst e
    rw [List.getElem?_append_left (List.getElem?_eq_some_iff.mp h).1]
    exact h
theorem Grow.off {bs : List Blk} {x : Int} {ks ks' : List Nat} {nb nb' : List Blk} (g : Grow bs x ks ks' nb nb') {i : Nat} (h : i ≤ nb.length) : off nb' i = off nb i := by
  rcases g with ⟨_, e⟩ | ⟨j, b, p, _, _, _, e⟩
  · rw [e]
  · rw [e, off_app h]
theorem Grow.key {bs : List Blk} {x : Int} {ks ks' : List Nat} {nb nb' : List Blk} (g : Grow bs x ks ks' nb nb') {i j : Nat} (h : ks[i]? = some j) : ks'[i]? = some j := by
  rcases g with ⟨e, _⟩ | ⟨j, b, p, _, _, e, _⟩
  · subst e
    exact h
  · subst e
    rw [List.getElem?_append_left (List.getElem?_eq_some_iff.mp h).1]
    exact h
theorem Grow.len {bs : List Blk} {x : Int} {ks ks' : List Nat} {nb nb' : List Blk} (g : Grow bs x ks ks' nb nb') : ks.length ≤ ks'.length := by
  rcases g with ⟨e, _⟩ | ⟨j, b, p, _, _, e, _⟩
  · subst e
    exact Nat.le_refl _
  · subst e
    rw [List.length_append]
    exact Nat.le_add_right _ _
theorem Coll.upd {bs : List Blk} {ks : List Nat} {sc : Nat → Nat} {nb : List Blk} {ws sp mv p : Addr} {H : Hp} {o : HO} (C : Coll bs ks sc nb ws sp mv H) (h1 : p ≠ ws) (h2 : p ≠ sp) (h3 : p ≠ mv) : Coll bs ks sc nb ws sp mv (upd H p o) := by
  obtain ⟨kvs, hm, r⟩ := C.hm
  exact ⟨C.S, by rw [upd_ne h1.symm]; exact C.hw, by rw [upd_ne h2.symm]; exact C.hs, C.ne, kvs, by rw [upd_ne h3.symm]; exact hm, r⟩
theorem ok_collect (T : Txt K mg A) : FnOk P w K mg base CX0 4 A.f_collect A.d_collect ["words", "roots"] (spCollect K) := by
  have G_move_word : FnOk P w K mg base CX0 3 A.f_move_word A.d_move_word _ _ := ok_move_word T
  refine T.F_collect.ok sc_collect (fun vs H Q E h => ?_) (fun cdv Ar outer s H vs Q E hr h => ?_)
  · obtain ⟨ws, rt, bs, rs, rfl, _⟩ := h
    rfl
  · obtain ⟨ws, rt, bs, rs, rfl, wf, h8, R, hrl, hw, hrt, k⟩ := h
    refine ⟨_, (pss_cons (ps_set (i := 2) sc_collect.nd rfl (Or.inr rfl) (pe_lst pa_nil)) (pss_cons (ps_set (i := 3) sc_collect.nd rfl (Or.inr rfl) pe_dnewK) (pss_cons (ps_setLc (i := 4) (own := [("word", 8)]) (g := gName 8) (tt := tYes) rfl sc_collect.nd rfl rfl (sw_true rfl rfl rfl (by decide +kernel)) (pi_list (pv 1)) (blkOk_by (N := N_collect) (sc := defScope s_collect) (by decide +kernel)) (fun _ _ _ _ _ => (pg_name (i := 8) sc_collect.nd rfl (Or.inl rfl))) (fun _ _ _ _ _ => pts_nil) (fun _ _ _ _ _ => (pe_call G_move_word (hr.mono (by decide)) rfl T.g_move_word T.F_move_word.kp T.b_move_word .nil pass0 (pa_cons (pv 0) (pa_cons (pv 8) (pa_cons (pv 2) (pa_cons (pv 3) pa_nil))))))) (pss_cons (ps_set (i := 5) sc_collect.nd rfl (Or.inl rfl) pe_int) (pss_cons (ps_while PassesOwn.never (pt_cmpR op_lt (pv 5) (pe_callB call_len_seq (by rfl) T.n_len PySem.boot_len (pa_cons (pv 2) pa_nil)) (nomark _)) (pss_cons (ps_set (i := 6) sc_collect.nd rfl (Or.inl rfl) (pe_ix (ixl (K := K) rfl) (pv 2) (pe_op op_add (pv 5) pe_int) (fun _ _ => rfl))) (pss_cons (ps_for PassesOwn.never rfl (pi_range2 rfl T.n_range (pa_cons (pe_op op_add (pv 5) (pe_glob (v := .int 4) rfl T.g_HEADER ⟨_, rfl⟩)) (pa_cons (pe_op op_add (pe_op op_add (pv 5) (pe_glob (v := .int 4) rfl T.g_HEADER ⟨_, rfl⟩)) (pv 6)) pa_nil))) (pg_name (i := 7) sc_collect.nd rfl (Or.inl rfl)) (pss_one (ps_asg (pe_call G_move_word (hr.mono (by decide)) rfl T.g_move_word T.F_move_word.kp T.b_move_word .nil pass0 (pa_cons (pv 0) (pa_cons (pe_ix (ixl (K := K) rfl) (pv 2) (pv 7) (fun _ _ => rfl)) (pa_cons (pv 2) (pa_cons (pv 3) pa_nil))))) (pg_sub (pv 2) (pv 7) set_list)))) (pss_one (ps_aug (i := 5) sc_collect.nd rfl (Or.inl rfl) (pe_op op_add (pe_glob (v := .int 4) rfl T.g_HEADER ⟨_, rfl⟩) (pv 6)) ip_add))))) (pss_one (ps_ret (pe_tup (pa_cons (pv 2) (pa_cons (pv 4) pa_nil)))))))))), ?_⟩
    refine ⟨Nat.zero_le _, fun sp hsp => fun mv hmv => ?_⟩
    have nsm : sp ≠ mv := ne_of_none upd_same hmv
    have hmv0 : H mv = none := by rw [upd_ne nsm.symm] at hmv; exact hmv
    have nws : ws ≠ sp := ne_of_none hw hsp
    have nwm : ws ≠ mv := ne_of_none hw hmv0
    have nrs : rt ≠ sp := ne_of_none hrt hsp
    have nrm : rt ≠ mv := ne_of_none hrt hmv0
    have hS0 : Same H (upd (upd H sp (.lst [])) mv (.dK [])) := fun a o e => by
      rw [upd_ne (ne_of_none e hmv0), upd_ne (ne_of_none e hsp)]
      exact e
    refine ⟨_, rfl, rt, rfl, ⟨_, SqL.of (hS0 _ _ hrt)⟩, fun D hD => ?_⟩
    have nDs : D ≠ sp := fun q => by
      rw [q, upd_ne nsm, upd_same] at hD
      cases hD
    have nDm : D ≠ mv := fun q => by
      rw [q, upd_same] at hD
      cases hD
    have hD0 : H D = none := by rw [upd_ne nDm, upd_ne nDs] at hD; exact hD
    have nDw : D ≠ ws := (ne_of_none hw hD0).symm
    have nDr : D ≠ rt := (ne_of_none hrt hD0).symm
    refine lc_list (K := K) (a := rt) (xs := nums rs) (fun i H' => ∃ (ks : List Nat) (nb : List Blk) (ys : List Int), Coll bs ks (fun _ => 0) nb ws sp mv H' ∧ ys.length = i ∧ (∀ (n : Nat) (x : Int), n < i → rs[n]? = some x → ∃ y, ys[n]? = some y ∧ Mv bs ks x y) ∧ (∀ j ∈ ks, Reach bs rs (4 * (off bs j : Int) + 1)) ∧
      H' D = some (.lst (nums ys)) ∧ Same H H') ?_ (fun i H' _ h => ?_) ?_ ?_
    · refine ⟨[], [], [], ⟨Space.start, ?_, ?_, nws, [], ?_, Nat.le_refl _, fun j _ => ⟨fun i h => by simp at h, fun _ => rfl⟩⟩, rfl, fun n x h => absurd h (Nat.not_lt_zero _), fun _ h => (nomatch h), upd_same, fun a o e => ?_⟩
      · rw [upd_ne nDw.symm, upd_ne nwm, upd_ne nws]
        exact hw
      · rw [upd_ne nDs.symm, upd_ne nsm, upd_same]
        rfl
      · rw [upd_ne nDm.symm, upd_same]
      · rw [upd_ne (ne_of_none e hD0)]
        exact hS0 a o e
    · obtain ⟨_, _, _, _, _, _, _, _, h⟩ := h
      exact SqL.of (h _ _ hrt)
    · rintro i y H3 hi ⟨ks, nb, ys, C, hyl, hys, hks, hDl, hSm⟩
      rw [List.getElem?_map] at hi
      obtain ⟨x, ex, rfl⟩ : ∃ x, rs[i]? = some x ∧ y = V.int x := by
        cases e : rs[i]? with
        | none => rw [e] at hi; cases hi
        | some x => rw [e] at hi; exact ⟨x, rfl, (Option.some.inj hi).symm⟩
      have hxm : x ∈ rs := List.mem_of_getElem? ex
      have hir := (List.getElem?_eq_some_iff.mp ex).1
      refine ⟨rfl, tYes_do ?_⟩
      refine ⟨_, rfl, _, rfl, _, rfl, _, rfl, ws, sp, mv, x, bs, ks, _, nb, rfl, R x hxm, C, wf, h8, rfl, fun z ks' nb' H4 hmv' hg C' hk2 => ?_⟩
      have hD4 : H4 D = some (.lst (nums ys)) := hk2 _ _ nDs nDm hDl
      have hk' := hg.keys (rs := rs) (fun q => .root hxm q) hks
      refine ⟨_, hD4, small_lt (by rw [List.length_map]; omega), ks', nb', ys ++ [z], C'.upd nDw nDs nDm, by simp [hyl], fun n u hn hu => ?_, hk', ?_, fun a o e => ?_⟩
      · by_cases q : n < i
        · obtain ⟨v, ev, m⟩ := hys n u q hu
          exact ⟨v, by rw [List.getElem?_append_left (by omega)]; exact ev, hg.mv m⟩
        · have : n = i := by omega
          subst this
          rw [ex] at hu
          cases hu
          exact ⟨z, by rw [List.getElem?_append_right (by omega), hyl, Nat.sub_self] <;> rfl, hmv'⟩
      · rw [upd_same, nums_app]
        rfl
      · have nD : a ≠ D := ne_of_none e hD0
        rw [upd_ne nD]
        exact hk2 a o (ne_of_none e hsp) (ne_of_none e hmv0) (hSm a o e)
    · rintro H3 ⟨ks, nb, ys, C, hyl, hys, hks, hDl, hSm⟩
      rw [List.length_map] at hyl hys
      have hys' : ∀ (n : Nat) (x : Int), rs[n]? = some x → ∃ y, ys[n]? = some y ∧ Mv bs ks x y := fun n x h => hys n x (List.getElem?_eq_some_iff.mp h).1 h
      clear hys
      -- while at < len(space)
      refine ⟨fun m σ H' => ∃ (i : Nat) (ks : List Nat) (nb : List Blk) (v6 v7 : Option V), m = bs.length - i ∧ i ≤ nb.length ∧ σ = [some (.ref ws), some (.ref rt), some (.ref sp), some (.ref mv), some (.ref D), some (.int (off nb i : Int)), v6, v7, none] ∧ Coll bs ks (prog i 0) nb ws sp mv H' ∧
        (∀ (n : Nat) (x : Int), rs[n]? = some x → ∃ y, ys[n]? = some y ∧ Mv bs ks x y) ∧ (∀ j ∈ ks, Reach bs rs (4 * (off bs j : Int) + 1)) ∧ H' D = some (.lst (nums ys)) ∧ Same H H', ⟨_, 0, ks, nb, none, none, rfl, Nat.zero_le _, ?_, ?_, hys', hks, hDl, hSm⟩, ?_⟩
      · show _ = [_, _, _, _, _, some (V.int ((off nb 0 : Nat) : Int)), _, _, _]
        rw [off_zero]
        rfl
      · exact ⟨C.S.sc fun i _ => by unfold prog; rw [if_neg (Nat.not_lt_zero _)]; split <;> rfl, C.hw, C.hs, C.ne, C.hm⟩
      · rintro m σ H4 ⟨i, ks, nb, v6, v7, rfl, hin, rfl, C, hys, hks, hDl, hSm⟩
        have hnl := C.S.len
        have hfew := C.S.few
        refine ⟨_, rfl, _, rfl, sp, _, rfl, .inl (SqL.of C.hs), _, _, rfl, rfl, _, rfl, ite2 (fun c => ?_) (fun c => ?_)⟩
        · have hlt : (off nb i : Int) < ((nums (flat nb)).length : Int) := of_decide_eq_true c
          rw [List.length_map] at hlt
          have hi : i < nb.length := by
            rcases Nat.lt_or_ge i nb.length with q | q
            · exact q
            · rw [off_ge q] at hlt
              omega
          have hik : i < ks.length := by omega
          have ei : ks[i]? = some ks[i] := List.getElem?_eq_getElem hik
          have hj := C.S.lt _ (List.getElem_mem hik)
          obtain ⟨b, eb⟩ : ∃ b, bs[ks[i]]? = some b := ⟨_, List.getElem?_eq_getElem hj⟩
          have hb3 := (wf.at eb).1
          obtain ⟨c0, ec0, r0⟩ := C.S.blk i _ b ei eb
          have hcl := r0.len
          have hnb : nb.length ≤ 8 := by omega
          have hofs : (flat nb).length ≤ 56 := by
            have q := flat_small (bs := nb) fun d hd => by
              obtain ⟨l, hl, e⟩ := List.mem_iff_getElem.mp hd
              have hl' : l < ks.length := by omega
              have hj' := C.S.lt _ (List.getElem_mem hl')
              obtain ⟨c', ec, r⟩ := C.S.blk l _ _ (List.getElem?_eq_getElem hl') (List.getElem?_eq_getElem hj')
              rw [List.getElem?_eq_getElem hl, e] at ec
              cases ec
              rw [r.len]
              exact wf.few _ (List.getElem_mem hj')
            omega
          refine ⟨fun σ' H' => ∃ (ks' : List Nat) (nb' : List Blk) (v6 v7 : Option V), i + 1 ≤ nb'.length ∧ σ' = [some (.ref ws), some (.ref rt), some (.ref sp), some (.ref mv), some (.ref D), some (.int (off nb' (i + 1) : Int)), v6, v7, none] ∧ Coll bs ks' (prog (i + 1) 0) nb' ws sp mv H' ∧
            (∀ (n : Nat) (x : Int), rs[n]? = some x → ∃ y, ys[n]? = some y ∧ Mv bs ks' x y) ∧ (∀ j ∈ ks', Reach bs rs (4 * (off bs j : Int) + 1)) ∧ H' D = some (.lst (nums ys)) ∧ Same H H', ?_, ?_⟩
          · rintro σ' H' ⟨ks', nb', v6, v7, h1, h2, h3⟩
            exact ⟨bs.length - (i + 1), by omega, i + 1, ks', nb', v6, v7, rfl, h1, h2, h3⟩
          · refine ⟨_, rfl, _, rfl, _, _, rfl, rfl, sp, _, _, _, rfl, rfl, SqL.of C.hs, at_ints (j := off nb i + 3) (by omega) (get_cnt ec0), ?_⟩
            refine ⟨_, rfl, _, _, rfl, rfl, _, rfl, _, _, rfl, rfl, _, rfl, _, _, rfl, rfl, (off nb i : Int) + 4, (off nb i : Int) + 4 + (c0.2.length : Int), rfl, ⟨by omega, by omega, by omega, by omega⟩, ?_⟩
            refine for_range (lo := (off nb i : Int) + 4) (n := ((off nb i : Int) + 4 + (c0.2.length : Int) - ((off nb i : Int) + 4)).toNat) (fun t σ' H' => ∃ (ks' : List Nat) (nb' : List Blk) (v7 : Option V), i < nb'.length ∧ ks'[i]? = some ks[i] ∧ off nb' i = off nb i ∧ σ' = [some (.ref ws), some (.ref rt), some (.ref sp), some (.ref mv), some (.ref D), some (.int (off nb i : Int)), some (.int (c0.2.length : Int)), v7, none] ∧ Coll bs ks' (prog i t) nb' ws sp mv H' ∧
              (∀ (n : Nat) (x : Int), rs[n]? = some x → ∃ y, ys[n]? = some y ∧ Mv bs ks' x y) ∧ (∀ j ∈ ks', Reach bs rs (4 * (off bs j : Int) + 1)) ∧ H' D = some (.lst (nums ys)) ∧ Same H H') ?_ ?_ ?_
            · exact ⟨ks, nb, v7, hi, ei, rfl, rfl, C, hys, hks, hDl, hSm⟩
            · rintro t σ5 H5 ht ⟨ks1, nb1, v7, hi1, ei1, eo1, rfl, C1, hys1, hks1, hD1, hSm1⟩
              have ht' : t < b.2.length := by omega
              obtain ⟨c1, ec1, r1⟩ := C1.S.blk i _ b ei1 eb
              have hsc : prog i t i = t := by unfold prog; rw [if_neg (Nat.lt_irrefl _), if_pos rfl]
              rw [hsc] at r1
              have ex : b.2[t]? = some b.2[t] := List.getElem?_eq_getElem ht'
              have hx : c1.2[t]? = some b.2[t] := by rw [r1.raw t (Nat.le_refl _), ex]
              have hxm : b.2[t] ∈ b.2 := List.getElem_mem ht'
              have hlk : i < ks1.length := by have := C1.S.len; omega
              have hx0 := get_fld ec1 t (by rw [r1.len]; exact ht')
              rw [hx] at hx0
              have hpr : Reach bs rs (4 * (off bs ks[i] : Int) + 1) := hks1 _ (List.mem_of_getElem? ei1)
              refine ⟨_, rfl, _, rfl, _, rfl, sp, _, _, _, rfl, rfl, SqL.of C1.hs, at_ints (j := off nb1 i + 4 + t) (by rw [eo1]; omega) hx0, _, rfl, _, rfl, ws, sp, mv, _, bs, ks1, _, nb1, rfl, (wf.at eb).2 _ hxm, C1, wf, h8, ?_, fun z ks' nb' H6 hmv' hg C' hk2 => ?_⟩
              · unfold prog
                rw [if_neg (by omega), if_neg (by omega)]
              · have hoff' : off nb' i = off nb i := by rw [hg.off (Nat.le_of_lt hi1), eo1]
                have ec' := hg.get ec1
                have hfl := flat_len ec'
                have htc : t < c1.2.length := by rw [r1.len]; exact ht'
                refine ⟨_, rfl, _, rfl, sp, _, _, off nb' i + 4 + t, rfl, rfl, C'.hs, ?_, ?_⟩
                · rw [show (off nb i : Int) + 4 + (t : Int) = ((off nb' i + 4 + t : Nat) : Int) by rw [hoff']; omega]
                  exact ixN_nat (by rw [List.length_map]; omega)
                · obtain ⟨kvs, hm, hmr⟩ := C'.hm
                  have S' := C'.S.set (hg.key ei1) eb ec' hsc ex hmv'
                  refine ⟨ks', nb'.set i (c1.1, c1.2.set t z), _, ?_, hg.key ei1, ?_, rfl, ⟨S'.sc fun l _ => ?_, ?_, ?_, C'.ne, kvs, ?_, hmr⟩, fun n u hu => ?_, hg.keys (fun q => .step hpr ⟨hj, rfl⟩ eb hxm q) hks1, ?_, fun a o e => ?_⟩
                  · rw [List.length_set]
                    exact (List.getElem?_eq_some_iff.mp ec').1
                  · rw [off_set ec' (by simp)]
                    exact hoff'
                  · show (if l = i then t + 1 else prog i t l) = prog i (t + 1) l
                    unfold prog
                    by_cases q : l = i
                    · rw [if_pos q, if_neg (by omega), if_pos q]
                    · rw [if_neg q, if_neg q, if_neg q]
                  · rw [upd_ne C'.ne]
                    exact C'.hw
                  · rw [upd_same, ← set_fld ec' t htc z]
                    show _ = some (HO.lst (List.map V.int _))
                    rw [List.map_set]
                  · rw [upd_ne nsm.symm]
                    exact hm
                  · obtain ⟨y, ey, m⟩ := hys1 n u hu
                    exact ⟨y, ey, hg.mv m⟩
                  · rw [upd_ne nDs]
                    exact hk2 _ _ nDs nDm hD1
                  · rw [upd_ne (ne_of_none e hsp)]
                    exact hk2 a o (ne_of_none e hsp) (ne_of_none e hmv0) (hSm1 a o e)
            · rintro σ5 H5 ⟨ks1, nb1, v7, hi1, ei1, eo1, rfl, C1, hys1, hks1, hD1, hSm1⟩
              obtain ⟨c1, ec1, r1⟩ := C1.S.blk i _ b ei1 eb
              refine ⟨_, rfl, _, rfl, _, _, rfl, rfl, _, _, rfl, rfl, ks1, nb1, some (.int (c0.2.length : Int)), v7, hi1, ?_, ⟨⟨C1.S.nd, C1.S.lt, C1.S.len, fun l j d el ed => ?_⟩, C1.hw, C1.hs, C1.ne, C1.hm⟩, hys1, hks1, hD1, hSm1⟩
              · show [_, _, _, _, _, some (V.int ((off nb i : Int) + (4 + (c0.2.length : Int)))), _, _, _] = _
                rw [off_succ ec1, eo1, r1.len, hcl, show (off nb i : Int) + (4 + (b.2.length : Int)) = ((off nb i + 4 + b.2.length : Nat) : Int) by omega]
              · obtain ⟨c', ec', r'⟩ := C1.S.blk l j d el ed
                refine ⟨c', ec', ?_⟩
                have hn3 : ((off nb i : Int) + 4 + (c0.2.length : Int) - ((off nb i : Int) + 4)).toNat = b.2.length := by omega
                rw [hn3] at r'
                unfold prog at r' ⊢
                by_cases q : l = i
                · subst q
                  rw [ei1] at el
                  cases el
                  rw [eb] at ed
                  cases ed
                  rw [if_neg (Nat.lt_irrefl _), if_pos rfl] at r'
                  rw [if_pos (Nat.lt_succ_self _)]
                  exact ⟨r'.hdr, r'.len, fun k x hk hx => r'.mv k x (List.getElem?_eq_some_iff.mp hx).1 hx, fun k hk => r'.raw k (by omega)⟩
                · by_cases q2 : l < i
                  · rw [if_pos q2] at r'
                    rw [if_pos (by omega)]
                    exact r'
                  · rw [if_neg q2, if_neg q] at r'
                    rw [if_neg (by omega)]
                    split
                    · exact r'
                    · exact r'
        · have hge : ¬ (off nb i : Int) < ((nums (flat nb)).length : Int) := fun q => c (decide_eq_true q)
          rw [List.length_map] at hge
          have hi : i = nb.length := by
            rcases Nat.lt_or_ge i nb.length with q | q
            · have := flat_len (List.getElem?_eq_getElem q)
              omega
            · omega
          refine ⟨_, rfl, _, rfl, (show 2 ≤ sizeLine by decide), fun p hp => ?_⟩
          have nsp : sp ≠ p := ne_of_none C.hs hp
          have nDp : D ≠ p := ne_of_none hDl hp
          have hp0 : H p = none := by
            cases e : H p with
            | none => rfl
            | some o =>
              rw [hSm _ _ e] at hp
              cases hp
          refine k ks nb ys p sp D _ (closed wf R (C.S.sc fun l hl => ?_) hys hyl hks) upd_same ?_ ?_ hp0 hsp hD0 (fun a o e => ?_)
          · unfold prog
            rw [if_pos (by omega)]
          · rw [upd_ne nsp]
            exact C.hs
          · rw [upd_ne nDp]
            exact hDl
          · rw [upd_ne (ne_of_none (hSm _ _ e) hp)]
            exact hSm _ _ e
end
end K74

set_option Elab.async false
set_option maxRecDepth 100000
set_option linter.all false
set_option maxHeartbeats 4000000
namespace K74
open PySem L2 GC
section
variable {P : Program} {w : World} {K : PySem.W.Frag} {mg : Str → Option Value} {base : Heap} {A : Adr}
/-! ### data -/
def numsD (ns : List Int) : PyData := .list (ns.map PyData.int)
theorem numsAll_lay : ∀ ns : List Int, PyData.canLayAll0 (ns.map PyData.int) = true
  | [] => by simp [PyData.canLayAll0]
  | n :: r => by simp [PyData.canLayAll0, PyData.canLay0, numsAll_lay r]
theorem numsAll_depth : ∀ ns : List Int, PyData.depthAll (ns.map PyData.int) ≤ 2
  | [] => by simp [PyData.depthAll]
  | n :: r => by
    have := numsAll_depth r
    simp only [List.map_cons, PyData.depthAll, PyData.depth]
    omega
theorem numsD_shaped (ns : List Int) : SeqAt.shaped (numsD ns) = true := by
  have h1 := numsAll_depth ns
  have h2 : PyData.depth (numsD ns) ≤ 64 := by
    simp only [numsD, PyData.depth]
    omega
  show ((numsD ns).canLay0 && decide ((numsD ns).depth ≤ 64)) = true
  rw [Bool.and_eq_true]
  exact ⟨by simp only [numsD, PyData.canLay0]; exact numsAll_lay ns, decide_eq_true h2⟩
theorem numsAll_eqv : ∀ a b : List Int, PyData.eqvAll (a.map PyData.int) (b.map PyData.int) = decide (a = b)
  | [], [] => by simp [PyData.eqvAll]
  | [], _ :: _ => by simp [PyData.eqvAll]
  | _ :: _, [] => by simp [PyData.eqvAll]
  | x :: a, y :: b => by
    simp only [List.map_cons, PyData.eqvAll, PyData.eqv, numsAll_eqv a b, List.cons.injEq]
    by_cases h : x = y <;> simp [h]
theorem numsD_eqv (a b : List Int) : PyData.eqv (numsD a) (numsD b) = decide (a = b) := by
  simp only [numsD, PyData.eqv]
  exact numsAll_eqv a b
theorem dpAll_nums {H : Hp} : ∀ ns : List Int, DpAll K H (nums ns) (ns.map PyData.int)
  | [] => .nil
  | n :: r => .cons (.int n) (dpAll_nums r)
theorem dp_nums {H : Hp} {a : Addr} {ns : List Int} (h : SqL K H a (nums ns)) : Dp K H (.ref a) (numsD ns) := .lst h (dpAll_nums ns)
theorem flat_nums (ns : List Int) : (nums ns).all flatV = true := by
  rw [List.all_map]
  exact List.all_eq_true.mpr fun _ _ => rfl
theorem inV_nums (x : Int) (ns : List Int) : inV (.int x) (nums ns) = decide (x ∈ ns) := by
  unfold inV
  rw [List.any_map]
  induction ns with
  | nil => rfl
  | cons n r ih =>
    rw [List.any_cons, ih]
    have e : ((fun y => eqV y (V.int x)) ∘ V.int) n = (n == x) := rfl
    rw [e]
    by_cases q : n = x
    · subst q
      simp
    · have q2 : ¬ x = n := fun z => q z.symm
      have q3 : (n == x) = false := beq_eq_false_iff_ne.mpr q
      simp [q2, q3]
theorem nums_last (t : List Int) (x : Int) : (nums (t ++ [x]))[(nums (t ++ [x])).length - 1]? = some (.int x) := by
  rw [List.getElem?_map, List.length_map, List.length_append, List.length_singleton, Nat.add_sub_cancel, List.getElem?_append_right (Nat.le_refl _), Nat.sub_self]
  rfl
theorem nums_drop (t : List Int) (x : Int) : (nums (t ++ [x])).dropLast = nums t := by
  rw [nums_app]
  exact List.dropLast_concat
theorem last_of {α : Type} : ∀ l : List α, l ≠ [] → ∃ t x, l = t ++ [x] := fun l h => ⟨l.dropLast, l.getLast h, (List.dropLast_concat_getLast h).symm⟩
/-! ### what is live -/
def spLive : Sp := fun vs H Q _ => ∃ (ws rt : Addr) (bs : List Blk) (rs : List Int), vs = [.ref ws, .ref rt] ∧ WF bs ∧ bs.length ≤ 8 ∧ (∀ x ∈ rs, Good bs x) ∧ rs.length ≤ 1000 ∧ H ws = some (.lst (nums (flat bs))) ∧ H rt = some (.lst (nums rs)) ∧
  ∀ (F : List Int) (p : Addr) (H' : Hp), F.Nodup → (∀ x, x ∈ F ↔ GC.Reach bs rs x) → H p = none → H' p = some (.lst (nums F)) → Same H H' → Q (.ref p) H'
theorem ok__law_live (T : Txt K mg A) : FnOk P w K mg base CX0 1 A.f__law_live A.d__law_live ["words", "roots"] spLive := by
  refine T.F__law_live.ok sc__law_live (fun vs H Q E h => ?_) (fun cdv Ar outer s H vs Q E hr h => ?_)
  · obtain ⟨ws, rt, bs, rs, rfl, _⟩ := h
    rfl
  · obtain ⟨ws, rt, bs, rs, rfl, wf, h8, R, hrl, hw, hrt, k⟩ := h
    refine ⟨_, (pss_cons (ps_set (i := 2) sc__law_live.nd rfl (Or.inl rfl) (pe_lst pa_nil)) (pss_cons (ps_set (i := 3) sc__law_live.nd rfl (Or.inl rfl) (pe_callTy call_list_of (by rfl) T.n_list (by decide +kernel) (pa_cons (pv 1) pa_nil))) (pss_cons (ps_while PassesOwn.never (pt_cmpR op_gt (pe_callB call_len_seq (by rfl) T.n_len PySem.boot_len (pa_cons (pv 3) pa_nil)) pe_int (nomark _)) (pss_cons (ps_set (i := 4) sc__law_live.nd rfl (Or.inl rfl) (pe_bm0 PySem.F.plainAttrs_list PySem.F.slot_list_pop PySem.F.type_list_pop mt_pop (pv 3))) (pss_one (ps_if (PW.pt (pw_and (pt_cmpR op_eq (pe_op op_mod (pv 4) pe_int) pe_int (nomark _)) (pw_and1 (pt_cmpR op_notIn_seq (pv 4) (pv 2) (by rfl))))) (pss_cons (ps_expr (pe_bm PySem.F.plainAttrs_list PySem.F.slot_list_append PySem.F.type_list_append mt_append (pv 2) (pa_cons (pv 4) pa_nil))) (pss_cons (ps_set (i := 5) sc__law_live.nd rfl (Or.inl rfl) (pe_op op_fdiv (pv 4) pe_int)) (pss_one (ps_expr (pe_bm PySem.F.plainAttrs_list PySem.F.slot_list_extend PySem.F.type_list_extend mt_extend (pv 3) (pa_cons (pe_slice sl_list (pv 0) (po_some (pe_op op_add (pv 5) pe_int)) (po_some (pe_op op_add (pe_op op_add (pv 5) pe_int) (pe_ix (ixl (K := K) rfl) (pv 0) (pe_op op_add (pv 5) pe_int) (fun _ _ => rfl))))) pa_nil)))))) pss_nil)))) (pss_one (ps_ret (pv 2)))))), ?_⟩
    refine ⟨Nat.zero_le _, fun S hS => ?_⟩
    have nrS : rt ≠ S := ne_of_none hrt hS
    have nwS : ws ≠ S := ne_of_none hw hS
    refine ⟨_, rfl, rt, _, rfl, .inl (SqL.of (by rw [upd_ne nrS]; exact hrt)), fun L hL => ?_⟩
    have nSL : S ≠ L := ne_of_none upd_same hL
    have hL0 : H L = none := by rw [upd_ne nSL.symm] at hL; exact hL
    have nwL : ws ≠ L := ne_of_none hw hL0
    refine ⟨fun m σ H' => ∃ (F t : List Int) (v4 v5 : Option V), m = left bs F t ∧ left bs F t ≤ 2000 ∧ Walk bs rs F t ∧ σ = [some (.ref ws), some (.ref rt), some (.ref S), some (.ref L), v4, v5] ∧ H' S = some (.lst (nums F)) ∧ H' L = some (.lst (nums t)) ∧ Same H H',
      ⟨_, [], rs, none, none, rfl, ?_, Walk.start R, rfl, ?_, upd_same, fun a o e => ?_⟩, ?_⟩
    · unfold left
      rw [List.length_nil]
      omega
    · rw [upd_ne nSL, upd_same]
      rfl
    · rw [upd_ne (ne_of_none e hL0), upd_ne (ne_of_none e hS)]
      exact e
    · rintro m σ H1 ⟨F, t, v4, v5, rfl, hleft, W, rfl, hF, ht, hSm⟩
      have hFl := W.few wf R
      have hwd : H1 ws = some (.lst (nums (flat bs))) := hSm _ _ hw
      refine ⟨_, rfl, L, _, rfl, .inl (SqL.of ht), _, _, rfl, rfl, _, rfl, ite2 (fun c => ?_) (fun c => ?_)⟩
      · have hpos : (0 : Int) < ((nums t).length : Int) := of_decide_eq_true c
        rw [List.length_map] at hpos
        obtain ⟨t', x, rfl⟩ := last_of t (fun q => by rw [q] at hpos; simp at hpos)
        have hxg := W.tg x (List.mem_append_right _ (by simp))
        refine ⟨fun σ' H' => ∃ (F2 t2 : List Int) (v4 v5 : Option V), left bs F2 t2 < left bs F (t' ++ [x]) ∧ Walk bs rs F2 t2 ∧ σ' = [some (.ref ws), some (.ref rt), some (.ref S), some (.ref L), v4, v5] ∧ H' S = some (.lst (nums F2)) ∧ H' L = some (.lst (nums t2)) ∧ Same H H', ?_, ?_⟩
        · rintro σ' H' ⟨F2, t2, v4, v5, h1, h2⟩
          exact ⟨left bs F2 t2, h1, F2, t2, v4, v5, rfl, by omega, h2⟩
        · refine ⟨_, rfl, .inl ⟨rfl, _, SqL.of ht⟩, L, _, .int x, rfl, rfl, ht, nums_last t' x, ?_⟩
          rw [nums_drop]
          have hS1 : (upd H1 L (.lst (nums t'))) S = some (.lst (nums F)) := by rw [upd_ne nSL]; exact hF
          have hw1 : (upd H1 L (.lst (nums t'))) ws = some (.lst (nums (flat bs))) := by rw [upd_ne nwL]; exact hwd
          have hSm1 : Same H (upd H1 L (.lst (nums t'))) := fun a o e => by
            rw [upd_ne (ne_of_none e hL0)]
            exact hSm a o e
          refine ⟨_, rfl, _, _, rfl, rfl, (show (0 : Int) < 4 by decide), rfl, _, rfl, ite2 (fun c1 => ?_) (fun c1 => ?_)⟩
          · have hx1 : x % 4 = 1 := dec_one.mp c1
            refine ⟨_, rfl, _, rfl, S, _, rfl, .inl (SqL.of hS1), rfl, flat_nums F, _, rfl, ?_⟩
            show if (!inV (.int x) (nums F)) = true then _ else _
            rw [inV_nums]
            refine ite2 (fun c2 => ?_) (fun c2 => ?_)
            · have hxF : x ∉ F := fun q => by
                rw [decide_eq_true q] at c2
                cases c2
              obtain ⟨j, p⟩ := hxg.ptr hx1
              obtain ⟨b, eb⟩ : ∃ b, bs[j]? = some b := ⟨_, List.getElem?_eq_getElem p.1⟩
              have hb3 := (wf.at eb).1
              have hfl := flat_len eb
              have W2 := W.take wf p eb hxF
              have hF2 := W2.few wf R
              have ltk := left_take wf R W2 hb3
              refine ⟨_, rfl, .inl ⟨rfl, _, SqL.of hS1⟩, _, rfl, S, _, _, rfl, rfl, hS1, small_lt (by rw [List.length_map]; omega), ?_⟩
              refine ⟨_, rfl, _, _, rfl, rfl, ⟨by decide, by decide⟩, ?_⟩
              have hL2 : (upd (upd H1 L (.lst (nums t'))) S (.lst (nums F ++ [.int x]))) L = some (.lst (nums t')) := by rw [upd_ne nSL.symm, upd_same]
              have hw2 : (upd (upd H1 L (.lst (nums t'))) S (.lst (nums F ++ [.int x]))) ws = some (.lst (nums (flat bs))) := by rw [upd_ne nwS]; exact hw1
              refine ⟨_, rfl, .inl ⟨rfl, _, SqL.of hL2⟩, _, rfl, _, rfl, _, _, rfl, rfl, _, rfl, _, rfl, _, _, rfl, rfl, _, rfl, _, rfl, _, _, rfl, rfl, ws, _, _, _, rfl, rfl, SqL.of hw2, at_ints (j := off bs j + 3) (by rw [p.div]; omega) (get_cnt eb), _, _, rfl, rfl, _, rfl, ws, _, rfl, SqL.of hw2, fun q hq => ?_⟩
              have ecut : cutV (nums (flat bs)) (some (x / 4 + 4)) (some (x / 4 + 4 + (b.2.length : Int))) = nums b.2 := by
                rw [cut_ints (i := off bs j + 4) (j := off bs j + 4 + b.2.length) (by rw [p.div]; omega) (by rw [p.div]; omega) (by omega) hfl, show off bs j + 4 + b.2.length - (off bs j + 4) = b.2.length by omega, cut_fld eb]
              have nLq : L ≠ q := ne_of_none hL2 hq
              have nSq : S ≠ q := ne_of_none upd_same hq
              rw [ecut]
              refine ⟨L, q, _, _, rfl, rfl, Eq.trans (upd_ne nLq) hL2, upd_same, small_len ?_, F ++ [x], t' ++ b.2, _, _, ltk, W2, rfl, ?_, ?_, fun a o e => ?_⟩
              · rw [List.length_map, List.length_map]
                have : left bs F (t' ++ [x]) ≤ 2000 := hleft
                unfold left at this
                rw [List.length_append, List.length_singleton] at this
                omega
              · rw [upd_ne nSL, upd_ne nSq, upd_same, nums_app]
                rfl
              · rw [upd_same, nums_app]
              · have nq : a ≠ q := fun z => by
                  rw [upd_ne (fun z2 => nSq z2.symm), upd_ne (fun z2 => nLq z2.symm)] at hq
                  rw [z] at e
                  rw [hSm _ _ e] at hq
                  cases hq
                rw [upd_ne (ne_of_none e hL0), upd_ne nq, upd_ne (ne_of_none e hS)]
                exact hSm1 a o e
            · have hxF : x ∈ F := by
                by_cases q : x ∈ F
                · exact q
                · rw [decide_eq_false q] at c2
                  exact absurd rfl c2
              exact ⟨F, t', _, _, left_skip, W.skip fun _ => hxF, rfl, hS1, upd_same, hSm1⟩
          · refine iteF ?_
            exact ⟨F, t', _, _, left_skip, W.skip fun q => absurd (dec_one.mpr q) c1, rfl, hS1, upd_same, hSm1⟩
      · have ht0 : t = [] := by
          cases t with
          | nil => rfl
          | cons a r => exact absurd (decide_eq_true (by show (0 : Int) < ((nums (a :: r)).length : Int); rw [List.length_map, List.length_cons]; omega)) c
        subst ht0
        exact ⟨_, rfl, k F S H1 W.nd W.end hS hF hSm⟩
end
end K74

set_option Elab.async false
set_option maxRecDepth 100000
set_option linter.all false
set_option maxHeartbeats 4000000
namespace K74
open PySem L2 GC
section
variable {P : Program} {w : World} {K : PySem.W.Frag} {mg : Str → Option Value} {base : Heap} {A : Adr}
/-- the words of the block that a word names -/
def wsz (bs : List Blk) (x : Int) : Int := 4 + (flat bs).getD (x / 4 + 3).toNat 0
theorem wsz_ptr {bs : List Blk} {x : Int} {j : Nat} {b : Blk} (p : Ptr bs x j) (e : bs[j]? = some b) : wsz bs x = 4 + (b.2.length : Int) := by
  unfold wsz
  rw [p.div, show ((off bs j : Int) + 3).toNat = off bs j + 3 by omega, List.getD_eq_getElem?_getD, get_cnt e]
  rfl
def total (bs : List Blk) (F : List Int) : Int := (F.map (wsz bs)).sum
theorem sum_app (a b : List Int) : (a ++ b).sum = a.sum + b.sum := by
  induction a with
  | nil => simp
  | cons x a ih =>
    rw [List.cons_append, List.sum_cons, List.sum_cons, ih]
    omega
theorem total_add (bs : List Blk) (F : List Int) (x : Int) : total bs (F ++ [x]) = total bs F + wsz bs x := by
  unfold total
  rw [List.map_append, sum_app]
  simp
theorem perm_sum {a b : List Int} (p : a.Perm b) : a.sum = b.sum := by
  induction p with
  | nil => rfl
  | cons x _ ih => rw [List.sum_cons, List.sum_cons, ih]
  | swap x y l => simp only [List.sum_cons]; omega
  | trans _ _ h1 h2 => rw [h1, h2]
def spSame : Sp := fun vs H Q _ => ∃ x y : Int, vs = [.int x, .int y] ∧ Q (.bl (decide (V.int x = V.int y))) H
theorem ok__law_same (T : Txt K mg A) : FnOk P w K mg base CX0 1 A.f__law_same A.d__law_same ["a", "b"] spSame := by
  refine T.F__law_same.ok sc__law_same (fun vs H Q E h => ?_) (fun cdv Ar outer s H vs Q E hr h => ?_)
  · obtain ⟨x, y, rfl, _⟩ := h
    rfl
  · obtain ⟨x, y, rfl, k⟩ := h
    refine ⟨_, (pss_cons (ps_if (PW.pt (pw_or (PW.pt (pw_and (pt_val (pe_callB call_isi (by rfl) T.n_isinstance (by decide +kernel) (pa_cons (pv 0) (pa_cons (pe_bltn (v := .ty "tuple") (by rfl) T.n_tuple (by decide +kernel) rfl) pa_nil))) (by intro _; rfl)) (pw_and1 (pt_val (pe_callB call_isi (by rfl) T.n_isinstance (by decide +kernel) (pa_cons (pv 1) (pa_cons (pe_bltn (v := .ty "tuple") (by rfl) T.n_tuple (by decide +kernel) rfl) pa_nil))) (by intro _; rfl))))) (pw_or1 (PW.pt (pw_and (pt_val (pe_callB call_isi (by rfl) T.n_isinstance (by decide +kernel) (pa_cons (pv 0) (pa_cons (pe_bltn (v := .ty "list") (by rfl) T.n_list (by decide +kernel) rfl) pa_nil))) (by intro _; rfl)) (pw_and1 (pt_val (pe_callB call_isi (by rfl) T.n_isinstance (by decide +kernel) (pa_cons (pv 1) (pa_cons (pe_bltn (v := .ty "list") (by rfl) T.n_list (by decide +kernel) rfl) pa_nil))) (by intro _; rfl)))))))) pss_never pss_nil) (pss_cons (ps_if (PW.pt (pw_and (pt_val (pe_callB call_isi (by rfl) T.n_isinstance (by decide +kernel) (pa_cons (pv 0) (pa_cons (pe_bltn (v := .ty "dict") (by rfl) T.n_dict (by decide +kernel) rfl) pa_nil))) (by intro _; rfl)) (pw_and1 (pt_val (pe_callB call_isi (by rfl) T.n_isinstance (by decide +kernel) (pa_cons (pv 1) (pa_cons (pe_bltn (v := .ty "dict") (by rfl) T.n_dict (by decide +kernel) rfl) pa_nil))) (by intro _; rfl))))) pss_never pss_nil) (pss_cons (ps_if (PW.pt (pw_or (pt_val (pe_callB call_isi (by rfl) T.n_isinstance (by decide +kernel) (pa_cons (pv 0) (pa_cons (pe_bltn (v := .ty "bool") (by rfl) T.n_bool (by decide +kernel) rfl) pa_nil))) (by intro _; rfl)) (pw_or1 (pt_val (pe_callB call_isi (by rfl) T.n_isinstance (by decide +kernel) (pa_cons (pv 1) (pa_cons (pe_bltn (v := .ty "bool") (by rfl) T.n_bool (by decide +kernel) rfl) pa_nil))) (by intro _; rfl))))) pss_never pss_nil) (pss_cons (ps_if (PW.pt (pw_or (PW.pt (pw_and (pt_val (pe_callB call_isi (by rfl) T.n_isinstance (by decide +kernel) (pa_cons (pv 0) (pa_cons (pe_bltn (v := .ty "int") (by rfl) T.n_int (by decide +kernel) rfl) pa_nil))) (by intro _; rfl)) (pw_and1 (pt_val (pe_callB call_isi (by rfl) T.n_isinstance (by decide +kernel) (pa_cons (pv 1) (pa_cons (pe_bltn (v := .ty "int") (by rfl) T.n_int (by decide +kernel) rfl) pa_nil))) (by intro _; rfl))))) (pw_or1 (PW.pt (pw_and (pt_val (pe_callB call_isi (by rfl) T.n_isinstance (by decide +kernel) (pa_cons (pv 0) (pa_cons (pe_bltn (v := .ty "str") (by rfl) T.n_str (by decide +kernel) rfl) pa_nil))) (by intro _; rfl)) (pw_and1 (pt_val (pe_callB call_isi (by rfl) T.n_isinstance (by decide +kernel) (pa_cons (pv 1) (pa_cons (pe_bltn (v := .ty "str") (by rfl) T.n_str (by decide +kernel) rfl) pa_nil))) (by intro _; rfl)))))))) (pss_one (ps_ret (pe_cmpR op_eq (pv 0) (pv 1) (nomark _)))) pss_nil) (pss_one (ps_ret (pe_and (pe_cmpR op_isN (pv 0) pe_non (nomark _)) (pe_one (pe_cmpR op_isN (pv 1) pe_non (nomark _)))))))))), ?_⟩
    refine ⟨_, rfl, _, _, _, _, false, rfl, .ty _, .base (.int _), kit_ty (by decide +kernel), _, rfl, ?_⟩
    refine iteF (A := _) ?_
    refine iteF (A := _) ?_
    refine ⟨_, rfl, _, _, _, _, false, rfl, .ty _, .base (.int _), kit_ty (by decide +kernel), _, rfl, ?_⟩
    refine iteF (A := _) ?_
    refine iteF (A := _) ?_
    refine ⟨_, rfl, _, _, _, _, false, rfl, .ty _, .base (.int _), kit_ty (by decide +kernel), _, rfl, ?_⟩
    refine iteF (A := _) ?_
    refine iteF (A := _) ?_
    refine ⟨_, rfl, _, _, _, _, false, rfl, .ty _, .base (.int _), kit_ty (by decide +kernel), _, rfl, ?_⟩
    refine iteF (A := _) ?_
    refine ⟨_, rfl, _, _, _, _, false, rfl, .ty _, .base (.int _), kit_ty (by decide +kernel), _, rfl, ?_⟩
    refine iteF (A := _) ?_
    refine ⟨_, rfl, _, _, _, _, true, rfl, .ty _, .base (.int _), kit_ty (by decide +kernel), _, rfl, ?_⟩
    refine iteT (B := _) ?_
    refine ⟨_, rfl, _, _, _, _, true, rfl, .ty _, .base (.int _), kit_ty (by decide +kernel), _, rfl, ?_⟩
    refine iteT (B := _) ?_
    refine iteT (B := _) ?_
    exact ⟨_, rfl, _, rfl, rfl, k⟩
def spReach : Sp := fun vs H Q _ => ∃ (ws rt : Addr) (bs : List Blk) (rs : List Int), vs = [.ref ws, .ref rt] ∧ WF bs ∧ bs.length ≤ 8 ∧ (∀ x ∈ rs, Good bs x) ∧ rs.length ≤ 1000 ∧ H ws = some (.lst (nums (flat bs))) ∧ H rt = some (.lst (nums rs)) ∧
  ∀ (F : List Int) (H' : Hp), F.Nodup → (∀ x, x ∈ F ↔ GC.Reach bs rs x) → Same H H' → Q (.int (total bs F)) H'
theorem ok_reachable (T : Txt K mg A) : FnOk P w K mg base CX0 2 A.f_reachable A.d_reachable ["words", "roots"] spReach := by
  have G_is_block : FnOk P w K mg base CX0 1 A.f_is_block A.d_is_block _ _ := ok_is_block T
  refine T.F_reachable.ok sc_reachable (fun vs H Q E h => ?_) (fun cdv Ar outer s H vs Q E hr h => ?_)
  · obtain ⟨ws, rt, bs, rs, rfl, _⟩ := h
    rfl
  · obtain ⟨ws, rt, bs, rs, rfl, wf, h8, R, hrl, hw, hrt, k⟩ := h
    refine ⟨_, (pss_cons (ps_set (i := 2) sc_reachable.nd rfl (Or.inl rfl) pe_dnewK) (pss_cons (ps_set (i := 3) sc_reachable.nd rfl (Or.inl rfl) pe_int) (pss_cons (ps_set (i := 4) sc_reachable.nd rfl (Or.inl rfl) (pe_callTy call_list_of (by rfl) T.n_list (by decide +kernel) (pa_cons (pv 1) pa_nil))) (pss_cons (ps_while PassesOwn.never (pt_truth (pv 4) (by intro _; rfl)) (pss_cons (ps_set (i := 5) sc_reachable.nd rfl (Or.inl rfl) (pe_bm0 PySem.F.plainAttrs_list PySem.F.slot_list_pop PySem.F.type_list_pop mt_pop (pv 4))) (pss_one (ps_if (PW.pt (pw_and (pt_val (pe_call G_is_block (hr.mono (by decide)) rfl T.g_is_block T.F_is_block.kp T.b_is_block .nil pass0 (pa_cons (pv 5) pa_nil)) (by intro _; rfl)) (pw_and1 (pt_cmp (pc_dnotin (hu_of hr) (pv 5) (pv 2)))))) (pss_cons (ps_dput (hu_of hr) (pv 2) (pv 5) pe_bl rfl) (pss_cons (ps_set (i := 6) sc_reachable.nd rfl (Or.inl rfl) (pe_op op_fdiv (pv 5) pe_int)) (pss_cons (ps_aug (i := 3) sc_reachable.nd rfl (Or.inl rfl) (pe_op op_add (pe_glob (v := .int 4) rfl T.g_HEADER ⟨_, rfl⟩) (pe_ix (ixl (K := K) rfl) (pv 0) (pe_op op_add (pv 6) pe_int) (fun _ _ => rfl))) ip_add) (pss_one (ps_expr (pe_bm PySem.F.plainAttrs_list PySem.F.slot_list_extend PySem.F.type_list_extend mt_extend (pv 4) (pa_cons (pe_slice sl_list (pv 0) (po_some (pe_op op_add (pv 6) (pe_glob (v := .int 4) rfl T.g_HEADER ⟨_, rfl⟩))) (po_some (pe_op op_add (pe_op op_add (pv 6) (pe_glob (v := .int 4) rfl T.g_HEADER ⟨_, rfl⟩)) (pe_ix (ixl (K := K) rfl) (pv 0) (pe_op op_add (pv 6) pe_int) (fun _ _ => rfl))))) pa_nil))))))) pss_nil)))) (pss_one (ps_ret (pv 3))))))), ?_⟩
    refine fun S hS => ?_
    have nrS : rt ≠ S := ne_of_none hrt hS
    have nwS : ws ≠ S := ne_of_none hw hS
    refine ⟨_, rfl, rt, _, rfl, .inl (SqL.of (by rw [upd_ne nrS]; exact hrt)), fun L hL => ?_⟩
    have nSL : S ≠ L := ne_of_none upd_same hL
    have hL0 : H L = none := by rw [upd_ne nSL.symm] at hL; exact hL
    have nwL : ws ≠ L := ne_of_none hw hL0
    refine ⟨fun m σ H' => ∃ (F t : List Int) (kvs : List (Key × V)) (v5 v6 : Option V), m = left bs F t ∧ left bs F t ≤ 2000 ∧ Walk bs rs F t ∧ kvs.length ≤ F.length ∧ (∀ x : Int, (valV kvs (Sum.inl x)).isSome = decide (x ∈ F)) ∧ σ = [some (.ref ws), some (.ref rt), some (.ref S), some (.int (total bs F)), some (.ref L), v5, v6] ∧ H' S = some (.dK kvs) ∧ H' L = some (.lst (nums t)) ∧ Same H H',
      ⟨_, [], rs, [], none, none, rfl, ?_, Walk.start R, Nat.le_refl _, fun x => rfl, rfl, ?_, upd_same, fun a o e => ?_⟩, ?_⟩
    · unfold left
      rw [List.length_nil]
      omega
    · rw [upd_ne nSL, upd_same]
    · rw [upd_ne (ne_of_none e hL0), upd_ne (ne_of_none e hS)]
      exact e
    · rintro m σ H1 ⟨F, t, kvs, v5, v6, rfl, hleft, W, hkl, hkv, rfl, hF, ht, hSm⟩
      have hFl := W.few wf R
      have hwd : H1 ws = some (.lst (nums (flat bs))) := hSm _ _ hw
      refine ⟨_, rfl, _, .inl ⟨_, SqL.of ht, rfl⟩, ?_⟩
      by_cases ht0 : t = []
      · subst ht0
        refine iteF (A := _) ?_
        exact ⟨_, rfl, k F H1 W.nd W.end hSm⟩
      · obtain ⟨t', x, rfl⟩ := last_of t ht0
        have hne : (!(nums (t' ++ [x])).isEmpty) = true := by
          rw [nums_app]
          cases nums t' <;> rfl
        rw [hne]
        refine iteT (B := _) ?_
        have hxg := W.tg x (List.mem_append_right _ (by simp))
        refine ⟨fun σ' H' => ∃ (F2 t2 : List Int) (kvs2 : List (Key × V)) (v5 v6 : Option V), left bs F2 t2 < left bs F (t' ++ [x]) ∧ Walk bs rs F2 t2 ∧ kvs2.length ≤ F2.length ∧ (∀ x : Int, (valV kvs2 (Sum.inl x)).isSome = decide (x ∈ F2)) ∧ σ' = [some (.ref ws), some (.ref rt), some (.ref S), some (.int (total bs F2)), some (.ref L), v5, v6] ∧ H' S = some (.dK kvs2) ∧ H' L = some (.lst (nums t2)) ∧ Same H H', ?_, ?_⟩
        · rintro σ' H' ⟨F2, t2, kvs2, v5, v6, h1, h2⟩
          exact ⟨left bs F2 t2, h1, F2, t2, kvs2, v5, v6, rfl, by omega, h2⟩
        · refine ⟨_, rfl, .inl ⟨rfl, _, SqL.of ht⟩, L, _, .int x, rfl, rfl, ht, nums_last t' x, ?_⟩
          rw [nums_drop]
          have hS1 : (upd H1 L (.lst (nums t'))) S = some (.dK kvs) := by rw [upd_ne nSL]; exact hF
          have hw1 : (upd H1 L (.lst (nums t'))) ws = some (.lst (nums (flat bs))) := by rw [upd_ne nwL]; exact hwd
          have hSm1 : Same H (upd H1 L (.lst (nums t'))) := fun a o e => by
            rw [upd_ne (ne_of_none e hL0)]
            exact hSm a o e
          refine ⟨_, rfl, x, rfl, fun b hb => ⟨_, rfl, ite2 (fun c1 => ?_) (fun c1 => ?_)⟩⟩
          · have hx1 : x % 4 = 1 := hb.mp c1
            refine ⟨_, rfl, _, rfl, S, _, rfl, DGet.k (k := Sum.inl x) hS1, _, rfl, ?_⟩
            rw [hkv]
            refine ite2 (fun c2 => ?_) (fun c2 => ?_)
            · have hxF : x ∉ F := fun q => by
                rw [decide_eq_true q] at c2
                cases c2
              obtain ⟨j, p⟩ := hxg.ptr hx1
              obtain ⟨b, eb⟩ : ∃ b, bs[j]? = some b := ⟨_, List.getElem?_eq_getElem p.1⟩
              have hb3 := (wf.at eb).1
              have hfl := flat_len eb
              have W2 := W.take wf p eb hxF
              have hF2 := W2.few wf R
              have ltk := left_take wf R W2 hb3
              refine ⟨_, rfl, _, rfl, S, _, rfl, DPut.k (k := Sum.inl x) hS1 (small_lt (by omega)), ?_⟩
              refine ⟨_, rfl, _, _, rfl, rfl, ⟨by decide, by decide⟩, ?_⟩
              have hL2 : ∀ o : HO, (upd (upd H1 L (.lst (nums t'))) S o) L = some (.lst (nums t')) := fun o => by rw [upd_ne nSL.symm, upd_same]
              have hw2 : ∀ o : HO, (upd (upd H1 L (.lst (nums t'))) S o) ws = some (.lst (nums (flat bs))) := fun o => by rw [upd_ne nwS]; exact hw1
              refine ⟨_, rfl, _, rfl, _, rfl, _, _, rfl, rfl, ws, _, _, _, rfl, rfl, SqL.of (hw2 _), at_ints (j := off bs j + 3) (by rw [p.div]; omega) (get_cnt eb), _, _, rfl, rfl, _, _, rfl, rfl, ?_⟩
              refine ⟨_, rfl, .inl ⟨rfl, _, SqL.of (hL2 _)⟩, _, rfl, _, rfl, _, _, rfl, rfl, _, rfl, _, rfl, _, _, rfl, rfl, _, rfl, _, rfl, _, _, rfl, rfl, ws, _, _, _, rfl, rfl, SqL.of (hw2 _), at_ints (j := off bs j + 3) (by rw [p.div]; omega) (get_cnt eb), _, _, rfl, rfl, _, rfl, ws, _, rfl, SqL.of (hw2 _), fun q hq => ?_⟩
              have ecut : cutV (nums (flat bs)) (some (x / 4 + 4)) (some (x / 4 + 4 + (b.2.length : Int))) = nums b.2 := by
                rw [cut_ints (i := off bs j + 4) (j := off bs j + 4 + b.2.length) (by rw [p.div]; omega) (by rw [p.div]; omega) (by omega) hfl, show off bs j + 4 + b.2.length - (off bs j + 4) = b.2.length by omega, cut_fld eb]
              have nLq : L ≠ q := ne_of_none (hL2 _) hq
              have nSq : S ≠ q := ne_of_none upd_same hq
              rw [ecut]
              refine ⟨L, q, _, _, rfl, rfl, Eq.trans (upd_ne nLq) (hL2 _), upd_same, small_len ?_, F ++ [x], t' ++ b.2, _, some (.int x), some (.int (x / 4)), ltk, W2, ?_, fun z => ?_, ?_, (by rw [upd_ne nSL, upd_ne nSq, upd_same]), ?_, fun a o e => ?_⟩
              · rw [List.length_map, List.length_map]
                have : left bs F (t' ++ [x]) ≤ 2000 := hleft
                unfold left at this
                rw [List.length_append, List.length_singleton] at this
                omega
              · have := length_putK kvs (Sum.inl x : Key) (.bl true)
                rw [List.length_append, List.length_singleton]
                omega
              · rw [valV_put]
                by_cases q : z = x
                · subst q
                  rw [if_pos rfl]
                  simp
                · rw [if_neg (fun z2 => q (Sum.inl.inj z2)), hkv z]
                  simp [q]
              · rw [total_add, wsz_ptr p eb]
                rfl
              · rw [upd_same, nums_app]
              · have nq : a ≠ q := fun z => by
                  rw [upd_ne (fun z2 => nSq z2.symm), upd_ne (fun z2 => nLq z2.symm)] at hq
                  rw [z] at e
                  rw [hSm _ _ e] at hq
                  cases hq
                rw [upd_ne (ne_of_none e hL0), upd_ne nq, upd_ne (ne_of_none e hS)]
                exact hSm1 a o e
            · have hxF : x ∈ F := by
                by_cases q : x ∈ F
                · exact q
                · rw [decide_eq_false q] at c2
                  exact absurd rfl c2
              exact ⟨F, t', kvs, _, _, left_skip, W.skip fun _ => hxF, hkl, hkv, rfl, hS1, upd_same, hSm1⟩
          · refine iteF ?_
            exact ⟨F, t', kvs, _, _, left_skip, W.skip fun q => absurd (hb.mpr q) c1, hkl, hkv, rfl, hS1, upd_same, hSm1⟩
end
end K74

set_option Elab.async false
set_option maxRecDepth 100000
set_option linter.all false
set_option maxHeartbeats 40000000
namespace K74
open PySem L2 GC
section
variable {P : Program} {w : World} {K : PySem.W.Frag} {mg : Str → Option Value} {base : Heap} {A : Adr}
theorem offs_rise (bs : List Blk) : (offs bs).Pairwise (· < ·) := by
  unfold offs
  rw [List.pairwise_map]
  refine List.Pairwise.imp_of_mem (fun {a b} ha hb h => ?_) List.pairwise_lt_range
  have := off_lt h (List.mem_range.mp ha)
  omega
def begw (bs : List Blk) : List Int := (offs bs).map fun o => 4 * o + 1
theorem begw_nodup (bs : List Blk) : (begw bs).Nodup := by
  unfold begw
  have h : ((offs bs).map fun o => 4 * o + 1).Pairwise (· < ·) := by
    rw [List.pairwise_map]
    exact (offs_rise bs).imp fun h => by omega
  exact h.imp fun h e => by omega
theorem mem_begw {bs : List Blk} {y : Int} : y ∈ begw bs ↔ ∃ j, Ptr bs y j := by
  unfold begw
  rw [List.mem_map]
  constructor
  · rintro ⟨o, ho, e⟩
    obtain ⟨j, hj, e2⟩ := mem_offs.mp ho
    exact ⟨j, hj, by rw [← e, e2]⟩
  · rintro ⟨j, hj, e⟩
    exact ⟨_, mem_offs.mpr ⟨j, hj, rfl⟩, e.symm⟩
theorem flat_sum : ∀ bs : List Blk, ((flat bs).length : Int) = (bs.map fun b => 4 + (b.2.length : Int)).sum
  | [] => rfl
  | b :: r => by
    rw [flat_cons, List.length_append, one_len, List.map_cons, List.sum_cons, ← flat_sum r]
    omega
theorem total_beg (bs : List Blk) : total bs (begw bs) = ((flat bs).length : Int) := by
  rw [flat_sum]
  unfold total begw offs
  rw [List.map_map, List.map_map]
  congr 1
  apply List.ext_getElem?
  intro i
  rw [List.getElem?_map, List.getElem?_map]
  by_cases h : i < bs.length
  · have e : bs[i]? = some bs[i] := List.getElem?_eq_getElem h
    rw [List.getElem?_range h, e]
    show some (wsz bs (4 * (off bs i : Int) + 1)) = some _
    rw [wsz_ptr ⟨h, rfl⟩ e]
  · rw [List.getElem?_eq_none (by rw [List.length_range]; omega), List.getElem?_eq_none (by omega)]
    rfl
/-- as many words are reached in the new space as it has -/
theorem due_new {bs nb : List Blk} {rs ns : List Int} {ks : List Nat} (wf : WF bs) (R : ∀ x ∈ rs, Good bs x) (D : Done bs rs ks nb ns) {F : List Int} (nd : F.Nodup) (h : ∀ y, y ∈ F ↔ GC.Reach nb ns y) : total nb F = ((flat nb).length : Int) := by
  rw [← total_beg]
  unfold total
  refine perm_sum (List.Perm.map _ ((List.perm_ext_iff_of_nodup nd (begw_nodup nb)).mpr fun y => ?_))
  rw [h, D.reach wf, D.news wf R, mem_begw]
  exact ⟨fun ⟨i, a, b⟩ => ⟨i, a, b⟩, fun ⟨i, a, b⟩ => ⟨i, a, b⟩⟩
/-- .. and as many as were reached in the old one -/
theorem due_old {bs nb : List Blk} {rs ns : List Int} {ks : List Nat} (wf : WF bs) (R : ∀ x ∈ rs, Good bs x) (D : Done bs rs ks nb ns) {F : List Int} (nd : F.Nodup) (h : ∀ y, y ∈ F ↔ GC.Reach bs rs y) : total bs F = ((flat nb).length : Int) := by
  have e : ((flat nb).length : Int) = ((ks.map fun j => 4 * (off bs j : Int) + 1).map (wsz bs)).sum := by
    rw [flat_sum, show (nb.map fun b => 4 + (b.2.length : Int)) = (nb.map (·.2.length)).map (fun n : Nat => 4 + (n : Int)) by rw [List.map_map] <;> rfl, D.sp.lens]
    congr 1
    unfold sel
    rw [List.map_map, List.map_map, List.map_map]
    apply List.map_congr_left
    intro j hj
    have hl := D.sp.lt j hj
    have eb : bs[j]? = some bs[j] := List.getElem?_eq_getElem hl
    show 4 + (((bs.getD j ((0, 0, 0), [])).2.length : Nat) : Int) = wsz bs (4 * (off bs j : Int) + 1)
    rw [wsz_ptr ⟨hl, rfl⟩ eb, List.getD_eq_getElem?_getD, eb]
    rfl
  rw [e]
  unfold total
  refine perm_sum (List.Perm.map _ ((List.perm_ext_iff_of_nodup nd ?_).mpr fun y => ?_))
  · have hk := D.sp.nd
    unfold List.Nodup at hk ⊢
    rw [List.pairwise_map]
    refine List.Pairwise.imp_of_mem (fun {a b} ha hb hab q => ?_) hk
    exact hab (off_inj (D.sp.lt a ha) (D.sp.lt b hb) (by omega))
  · rw [h, List.mem_map]
    constructor
    · intro r
      obtain ⟨j, p⟩ := r.ptr wf R
      exact ⟨j, (D.keys j).mpr ⟨p.1, by rw [← p.2]; exact r⟩, p.2.symm⟩
    · rintro ⟨j, hj, e⟩
      rw [← e]
      exact ((D.keys j).mp hj).2
theorem due_same {bs : List Blk} {rs : List Int} {F G : List Int} (nd : F.Nodup) (nd2 : G.Nodup) (h : ∀ y, y ∈ F ↔ GC.Reach bs rs y) (h2 : ∀ y, y ∈ G ↔ GC.Reach bs rs y) : total bs F = total bs G :=
  perm_sum (List.Perm.map _ ((List.perm_ext_iff_of_nodup nd nd2).mpr fun y => by rw [h, h2]))
def spLaw (K : PySem.W.Frag) : Sp := fun vs H Q _ => ∃ (a : Addr) (ns : List Int), vs = [.ref a] ∧ SqL K H a (ns.map V.int) ∧ ns.length ≤ 63 ∧ ∀ H', Q (.bl true) H'
theorem ok_law (T : Txt K mg A) : FnOk P w K mg base CX0 5 A.f_law A.d_law ["script"] (spLaw K) := by
  have G__law_tape : FnOk P w K mg base CX0 1 A.f__law_tape A.d__law_tape _ _ := ok__law_tape T
  have G__law_words : FnOk P w K mg base CX0 4 A.f__law_words A.d__law_words _ _ := ok__law_words T
  have G__law_take : FnOk P w K mg base CX0 2 A.f__law_take A.d__law_take _ _ := ok__law_take T
  have G__law_word : FnOk P w K mg base CX0 3 A.f__law_word A.d__law_word _ _ := ok__law_word T
  have G_collect : FnOk P w K mg base CX0 4 A.f_collect A.d_collect _ _ := ok_collect T
  have G_reachable : FnOk P w K mg base CX0 2 A.f_reachable A.d_reachable _ _ := ok_reachable T
  have G__law_same : FnOk P w K mg base CX0 1 A.f__law_same A.d__law_same _ _ := ok__law_same T
  have G__law_live : FnOk P w K mg base CX0 1 A.f__law_live A.d__law_live _ _ := ok__law_live T
  refine T.F_law.ok sc_law (fun vs H Q E h => ?_) (fun cdv Ar outer s H vs Q E hr h => ?_)
  · obtain ⟨a, ns, rfl, _⟩ := h
    rfl
  · obtain ⟨a, ns, rfl, hS, hlen, k⟩ := h
    refine ⟨_, (pss_cons (ps_set (i := 1) sc_law.nd rfl (Or.inr rfl) (pe_call G__law_tape (hr.mono (by decide)) rfl T.g__law_tape T.F__law_tape.kp T.b__law_tape .nil pass0 (pa_cons (pv 0) (pa_cons pe_int pa_nil)))) (pss_cons (ps_asg (pe_call G__law_words (hr.mono (by decide)) rfl T.g__law_words T.F__law_words.kp T.b__law_words .nil pass0 (pa_cons (pv 1) pa_nil)) (pg_tup rfl (pgs_cons (pg_name (i := 2) sc_law.nd rfl (Or.inr rfl)) (pgs_cons (pg_name (i := 3) sc_law.nd rfl (Or.inr rfl)) pgs_nil)))) (pss_cons (ps_setLc (i := 4) (own := [("k", 11)]) (g := gName 11) (tt := tYes) rfl sc_law.nd rfl rfl (sw_true rfl rfl rfl (by decide +kernel)) (pi_range1 rfl T.n_range (pa_cons (pe_call G__law_take (hr.mono (by decide)) rfl T.g__law_take T.F__law_take.kp T.b__law_take .nil pass0 (pa_cons (pv 1) (pa_cons pe_int pa_nil))) pa_nil)) (blkOk_by (N := N_law) (sc := defScope s_law) (by decide +kernel)) (fun _ _ _ _ _ => (pg_name (i := 11) sc_law.nd rfl (Or.inl rfl))) (fun _ _ _ _ _ => pts_nil) (fun _ _ _ _ _ => (pe_call G__law_word (hr.mono (by decide)) rfl T.g__law_word T.F__law_word.kp T.b__law_word .nil pass0 (pa_cons (pv 1) (pa_cons (pv 3) pa_nil))))) (Evl.pss_cut (ps_if (pt_cmpR op_gt (pe_callB call_len_seq (by rfl) T.n_len PySem.boot_len (pa_cons (pv 4) pa_nil)) pe_int (nomark _)) (pss_one (ps_expr (pe_bm PySem.F.plainAttrs_list PySem.F.slot_list_append PySem.F.type_list_append mt_append (pv 4) (pa_cons (pe_ix (ixl (K := K) rfl) (pv 4) (pe_call G__law_take (hr.mono (by decide)) rfl T.g__law_take T.F__law_take.kp T.b__law_take .nil pass0 (pa_cons (pv 1) (pa_cons (pe_callB call_len_seq (by rfl) T.n_len PySem.boot_len (pa_cons (pv 4) pa_nil)) pa_nil))) (fun _ _ => rfl)) pa_nil)))) pss_nil) (pss_cons (ps_set (i := 5) sc_law.nd rfl (Or.inl rfl) (pe_callB (cr_sum rfl) (by rfl) T.n_sum (by decide +kernel) (pa_cons (pe_lc (own := [("word", 12)]) (g := gName 12) (tt := tYes) rfl sc_law.nd (pi_list (pe_call G__law_live (hr.mono (by decide)) rfl T.g__law_live T.F__law_live.kp T.b__law_live .nil pass0 (pa_cons (pv 2) (pa_cons (pv 4) pa_nil)))) (blkOk_by (N := N_law) (sc := defScope s_law) (by decide +kernel)) (fun _ _ _ _ _ => (pg_name (i := 12) sc_law.nd rfl (Or.inl rfl))) (fun _ _ _ _ _ => pts_nil) (fun _ _ _ _ _ => (pe_op op_add pe_int (pe_ix (ixl (K := K) rfl) (pv 2) (pe_op op_add (pe_op op_fdiv (pv 12) pe_int) pe_int) (fun _ _ => rfl))))) pa_nil))) (pss_cons (ps_set (i := 6) sc_law.nd rfl (Or.inl rfl) (pe_callTy call_list_of (by rfl) T.n_list (by decide +kernel) (pa_cons (pv 2) pa_nil))) (pss_cons (ps_set (i := 7) sc_law.nd rfl (Or.inl rfl) (pe_callTy call_list_of (by rfl) T.n_list (by decide +kernel) (pa_cons (pv 4) pa_nil))) (pss_cons (ps_set (i := 8) sc_law.nd rfl (Or.inl rfl) (pe_call G_reachable (hr.mono (by decide)) rfl T.g_reachable T.F_reachable.kp T.b_reachable .nil pass0 (pa_cons (pv 6) (pa_cons (pv 7) pa_nil)))) (pss_cons (ps_if (PW.pt (pw_or (pt_not (pt_val (pe_call G__law_same (hr.mono (by decide)) rfl T.g__law_same T.F__law_same.kp T.b__law_same .nil pass0 (pa_cons (pv 8) (pa_cons (pv 5) pa_nil))) (by intro _; rfl))) (pw_or (pt_val (pe_callB call_isi (by rfl) T.n_isinstance (by decide +kernel) (pa_cons (pv 8) (pa_cons (pe_bltn (v := .ty "bool") (by rfl) T.n_bool (by decide +kernel) rfl) pa_nil))) (by intro _; rfl)) (pw_or (pt_cmpR (op_neD hr.units) (pv 6) (pv 2) (nomark _)) (pw_or1 (pt_cmpR (op_neD hr.units) (pv 7) (pv 4) (nomark _))))))) (pss_one (ps_ret pe_bl)) pss_nil) (pss_cons (ps_asg (pe_call G_collect (hr.mono (by decide)) rfl T.g_collect T.F_collect.kp T.b_collect .nil pass0 (pa_cons (pv 6) (pa_cons (pv 7) pa_nil))) (pg_tup rfl (pgs_cons (pg_name (i := 9) sc_law.nd rfl (Or.inl rfl)) (pgs_cons (pg_name (i := 10) sc_law.nd rfl (Or.inl rfl)) pgs_nil)))) (pss_one (ps_ret (pe_and (pe_cmpR op_eq (pe_callB call_len_seq (by rfl) T.n_len PySem.boot_len (pa_cons (pv 9) pa_nil)) (pv 5) (nomark _)) (pe_and (pe_call G__law_same (hr.mono (by decide)) rfl T.g__law_same T.F__law_same.kp T.b__law_same .nil pass0 (pa_cons (pe_call G_reachable (hr.mono (by decide)) rfl T.g_reachable T.F_reachable.kp T.b_reachable .nil pass0 (pa_cons (pv 9) (pa_cons (pv 10) pa_nil))) (pa_cons (pv 5) pa_nil))) (pe_one (pe_call G__law_same (hr.mono (by decide)) rfl T.g__law_same T.F__law_same.kp T.b__law_same .nil pass0 (pa_cons (pe_call G_reachable (hr.mono (by decide)) rfl T.g_reachable T.F_reachable.kp T.b_reachable .nil pass0 (pa_cons (pv 2) (pa_cons (pe_lst pa_nil) pa_nil))) (pa_cons pe_int pa_nil)))))))))))))))))), ?_⟩
    -- tape, words, blocks
    refine ⟨_, rfl, a, ns, 0, rfl, hS, fun t s H1 ht hs hSm1 hT1 => ?_⟩
    refine ⟨_, rfl, t, s, rfl, hT1, fun bs p wd bl H2 wf h8 hwd hbl nwb hp hw hb hk hT2 => ⟨p, _, rfl, SqT.of hp, rfl, _, _, rfl, _, _, rfl, rfl, ?_⟩⟩
    have nwt : wd ≠ t := hT2.off_ints hw
    have nbt : bl ≠ t := hT2.off_ints hb
    have hol : (offs bs).length = bs.length := by unfold offs; rw [List.length_map, List.length_range]
    -- roots
    refine ⟨_, rfl, t, s, 6, rfl, by decide, by decide, hT2, fun r H3 hr0 hr1 hB hT3 => ⟨r, rfl, by omega, by omega, fun D hD => ?_⟩⟩
    obtain ⟨ot, et⟩ := hT3.at_t
    obtain ⟨os, es⟩ := hT3.at_s
    have nDt : D ≠ t := (ne_of_none et hD).symm
    have nDs : D ≠ s := (ne_of_none es hD).symm
    have hw3 : H3 wd = some (.lst (nums (flat bs))) := (hB _ nwt).trans hw
    have hb3 : H3 bl = some (.lst (nums (offs bs))) := (hB _ nbt).trans hb
    have nDw : wd ≠ D := ne_of_none hw3 hD
    have nDb : bl ≠ D := ne_of_none hb3 hD
    refine lc_range (lo := 0) (n := r.toNat) (fun i H' => ∃ rs : List Int, rs.length = i ∧ (∀ x ∈ rs, Good bs x) ∧ H' D = some (.lst (nums rs)) ∧ TapeAt H' t s ∧ H' wd = some (.lst (nums (flat bs))) ∧ H' bl = some (.lst (nums (offs bs)))) ?_ ?_ ?_
    · exact ⟨[], rfl, fun _ h => (nomatch h), upd_same, hT3.upd nDt nDs, by rw [upd_ne nDw]; exact hw3, by rw [upd_ne nDb]; exact hb3⟩
    · rintro i H4 hi ⟨rs, hrl, R, hD4, hT4, hw4, hb4⟩
      refine ⟨rfl, tYes_do ?_⟩
      refine ⟨_, rfl, _, rfl, t, s, bl, offs bs, rfl, hT4, hb4, by rw [hol]; omega, fun x H5 gx hB5 hT5 => ?_⟩
      refine ⟨_, (hB5 _ nDt).trans hD4, small_lt (by rw [List.length_map]; omega), rs ++ [x], by simp [hrl], fun y hy => ?_, ?_, hT5.upd nDt nDs, ?_, ?_⟩
      · rcases List.mem_append.mp hy with z | z
        · exact R y z
        · have : y = x := by simpa using z
          subst this
          exact gx.good
      · rw [upd_same, nums_app]
        rfl
      · rw [upd_ne nDw, hB5 _ nwt]
        exact hw4
      · rw [upd_ne nDb, hB5 _ nbt]
        exact hb4
    · rintro H4 ⟨rs0, hrl0, R0, hrt0, hT4, hw4, hb4⟩
      -- if len(roots) > 0
      refine ⟨fun σ' H' => ∃ rs : List Int, rs.length ≤ 7 ∧ (∀ x ∈ rs, Good bs x) ∧ σ' = [some (.ref a), some (.ref t), some (.ref wd), some (.ref bl), some (.ref D), none, none, none, none, none, none, none, none] ∧ H' D = some (.lst (nums rs)) ∧ H' wd = some (.lst (nums (flat bs))), ?_, ?_⟩
      · refine ⟨_, rfl, D, _, rfl, .inl (SqL.of hrt0), _, _, rfl, rfl, _, rfl, ite2 (fun c => ?_) (fun c => ?_)⟩
        · have hpos : (0 : Int) < ((nums rs0).length : Int) := of_decide_eq_true c
          rw [List.length_map] at hpos
          refine ⟨_, rfl, .inl ⟨rfl, _, SqL.of hrt0⟩, _, rfl, _, rfl, _, rfl, D, _, rfl, .inl (SqL.of hrt0), t, s, _, rfl, by rw [List.length_map]; omega, by rw [List.length_map]; omega, hT4, fun r2 H5 h0 h1 hB5 hT5 => ?_⟩
          rw [List.length_map] at h1
          have hlt : r2.toNat < rs0.length := by omega
          have hD5 : H5 D = some (.lst (nums rs0)) := (hB5 _ nDt).trans hrt0
          refine ⟨D, _, _, _, rfl, rfl, SqL.of hD5, at_ints (j := r2.toNat) (by omega) (List.getElem?_eq_getElem hlt), D, _, _, rfl, rfl, hD5, small_lt (by rw [List.length_map]; omega), rs0 ++ [rs0[r2.toNat]], by simp; omega, fun y hy => ?_, rfl, ?_, ?_⟩
          · rcases List.mem_append.mp hy with z | z
            · exact R0 y z
            · have : y = rs0[r2.toNat] := by simpa using z
              subst this
              exact R0 _ (List.getElem_mem hlt)
          · rw [upd_same, nums_app]
            rfl
          · rw [upd_ne nDw, hB5 _ nwt]
            exact hw4
        · exact ⟨rs0, by omega, R0, rfl, hrt0, hw4⟩
      · rintro σ' H5 ⟨rs, hrl, R, rfl, hrt, hw5⟩
        have hrl' : rs.length ≤ 1000 := by omega
        -- due
        refine ⟨_, rfl, _, rfl, wd, D, bs, rs, rfl, wf, h8, R, hrl', hw5, hrt, fun F pF H6 ndF hF _ hpF hSm6 => ⟨pF, rfl, ⟨_, SqL.of hpF⟩, fun M hM => ?_⟩⟩
        have hFl : F.length ≤ 8 := by
          have := few_ptrs ndF fun x hx => ((hF x).mp hx).ptr wf R
          omega
        have hw6 := hSm6 _ _ hw5
        have hrt6 := hSm6 _ _ hrt
        refine lc_list (K := K) (a := pF) (xs := nums F) (fun i H' => H' M = some (.lst (nums ((F.take i).map (wsz bs)))) ∧ Same H6 H') ⟨upd_same, fun a o e => by rw [upd_ne (ne_of_none e hM)]; exact e⟩ (fun i H' _ h => SqL.of (h.2 _ _ hpF)) ?_ ?_
        · rintro i v H7 hi ⟨e1, e2⟩
          rw [List.getElem?_map] at hi
          obtain ⟨x, ex, rfl⟩ : ∃ x, F[i]? = some x ∧ v = V.int x := by
            cases e : F[i]? with
            | none => rw [e] at hi; cases hi
            | some x => rw [e] at hi; exact ⟨x, rfl, (Option.some.inj hi).symm⟩
          obtain ⟨j, p⟩ := ((hF x).mp (List.mem_of_getElem? ex)).ptr wf R
          obtain ⟨b, eb⟩ : ∃ b, bs[j]? = some b := ⟨_, List.getElem?_eq_getElem p.1⟩
          refine ⟨rfl, tYes_do ?_⟩
          refine ⟨_, rfl, _, rfl, _, _, rfl, rfl, ⟨by decide, by decide⟩, _, _, rfl, rfl, wd, _, _, _, rfl, rfl, SqL.of (e2 _ _ hw6), at_ints (j := off bs j + 3) (by rw [p.div]; omega) (get_cnt eb), _, _, rfl, rfl, _, e1, small_lt (by rw [List.length_map, List.length_map, List.length_take]; omega), ?_, fun a o e => ?_⟩
          · rw [upd_same, List.take_add_one, ex, List.map_append, nums_app]
            show some (HO.lst (_ ++ [V.int (4 + (b.2.length : Int))])) = some (HO.lst (_ ++ [V.int (wsz bs x)]))
            rw [wsz_ptr p eb]
          · rw [upd_ne (ne_of_none e hM)]
            exact e2 a o e
        · rintro H7 ⟨e1, e2⟩
          rw [List.length_map, List.take_length] at e1
          refine ⟨M, F.map (wsz bs), rfl, SqL.of e1, ?_⟩
          have hw7 := e2 _ _ hw6
          have hrt7 := e2 _ _ hrt6
          clear e1 e2 hM hSm6
          -- given, handed
          refine ⟨_, rfl, wd, _, rfl, .inl (SqL.of hw7), fun g hg => ?_⟩
          have nwg : wd ≠ g := ne_of_none hw7 hg
          have nrg : D ≠ g := ne_of_none hrt7 hg
          refine ⟨_, rfl, D, _, rfl, .inl (SqL.of (by rw [upd_ne nrg]; exact hrt7)), fun hd hhd => ?_⟩
          have ngh : g ≠ hd := ne_of_none upd_same hhd
          have hhd0 : H7 hd = none := by rw [upd_ne ngh.symm] at hhd; exact hhd
          have k4 : ∀ a o, H7 a = some o → (upd (upd H7 g (.lst (nums (flat bs)))) hd (.lst (nums rs))) a = some o := fun a o e => by
            rw [upd_ne (ne_of_none e hhd0), upd_ne (ne_of_none e hg)]
            exact e
          have hg5 : (upd (upd H7 g (.lst (nums (flat bs)))) hd (.lst (nums rs))) g = some (.lst (nums (flat bs))) := by rw [upd_ne ngh, upd_same]
          have hh5 : (upd (upd H7 g (.lst (nums (flat bs)))) hd (.lst (nums rs))) hd = some (.lst (nums rs)) := upd_same
          have hw8 := k4 _ _ hw7
          have hrt8 := k4 _ _ hrt7
          clear k4
          generalize (upd (upd H7 g (.lst (nums (flat bs)))) hd (.lst (nums rs))) = H8 at hg5 hh5 hw8 hrt8 ⊢
          -- told
          refine ⟨_, rfl, _, rfl, g, hd, bs, rs, rfl, wf, h8, R, hrl', hg5, hh5, fun F2 H9 nd2 hF2 hSm9 => ?_⟩
          have eq2 : total bs F2 = total bs F := due_same nd2 ndF hF2 hF
          refine ⟨_, rfl, _, rfl, _, _, rfl, _, rfl, ?_⟩
          rw [decide_eq_true (show V.int (total bs F2) = V.int (F.map (wsz bs)).sum from by rw [eq2]; rfl)]
          refine iteF (A := _) ?_
          refine ⟨_, rfl, _, _, _, _, false, rfl, .ty _, .base (.int _), kit_ty (by decide +kernel), _, rfl, ?_⟩
          refine iteF (A := _) ?_
          have hg9 := hSm9 _ _ hg5
          have hh9 := hSm9 _ _ hh5
          have hw9 := hSm9 _ _ hw8
          have hrt9 := hSm9 _ _ hrt8
          refine ⟨_, rfl, _, rfl, numsD (flat bs), numsD (flat bs), dp_nums (SqL.of hg9), dp_nums (SqL.of hw9), numsD_shaped _, numsD_shaped _, _, rfl, ?_⟩
          rw [numsD_eqv, decide_eq_true rfl]
          refine iteF (A := _) ?_
          refine ⟨_, rfl, _, rfl, numsD rs, numsD rs, dp_nums (SqL.of hh9), dp_nums (SqL.of hrt9), numsD_shaped _, numsD_shaped _, _, rfl, ?_⟩
          rw [numsD_eqv, decide_eq_true rfl]
          refine iteF (A := _) ?_
          -- space, moved
          refine ⟨_, rfl, _, rfl, g, hd, bs, rs, rfl, wf, h8, R, hrl', hg9, hh9, fun ks nb ns' pp sp nr H10 DD hpp hsp hnr _ _ _ hSm10 => ⟨pp, _, rfl, SqT.of hpp, rfl, _, _, rfl, _, _, rfl, rfl, ?_⟩⟩
          have hwn := DD.wf wf
          have hnbl : nb.length ≤ 8 := by
            have := DD.sp.len
            have := DD.sp.few
            omega
          have hnsl : ns'.length ≤ 1000 := by rw [DD.len]; exact hrl'
          have dold := due_old wf R DD ndF hF
          refine ⟨_, rfl, sp, _, rfl, .inl (SqL.of hsp), _, rfl, rfl, _, rfl, ?_⟩
          rw [decide_eq_true (show V.int ((nums (flat nb)).length : Int) = V.int (F.map (wsz bs)).sum from by rw [List.length_map, ← dold]; rfl)]
          refine iteT (B := _) ?_
          refine ⟨_, rfl, _, rfl, sp, nr, nb, ns', rfl, hwn, hnbl, DD.good, hnsl, hsp, hnr, fun F3 H11 nd3 hF3 hSm11 => ⟨_, rfl, _, _, rfl, _, rfl, ?_⟩⟩
          have dnew := due_new wf R DD nd3 hF3
          rw [decide_eq_true (show V.int (total nb F3) = V.int (F.map (wsz bs)).sum from by rw [dnew, ← dold]; rfl)]
          refine iteT (B := _) ?_
          have hw11 := hSm11 _ _ (hSm10 _ _ hw9)
          refine ⟨_, rfl, Nat.zero_le _, fun z hz => ⟨wd, z, bs, [], rfl, wf, h8, fun _ h => (nomatch h), Nat.zero_le _, ?_, upd_same, fun F4 H12 nd4 hF4 _ => ⟨_, _, rfl, ?_⟩⟩⟩
          · rw [upd_ne (ne_of_none hw11 hz)]
            exact hw11
          · have e4 : F4 = [] := by
              cases F4 with
              | nil => rfl
              | cons x r =>
                have hx := (hF4 x).mp List.mem_cons_self
                have no : ∀ y, GC.Reach bs [] y → False := fun y hy => by
                  induction hy with
                  | root m _ => cases m
                  | step _ _ _ _ _ ih => exact ih
                exact (no x hx).elim
            subst e4
            exact k _
end
theorem all_mk {l : PySem.W.OpenLaw} {w : World} {K : PySem.W.Frag} {h : Heap} {mg : Str → Option Value} {fa : Addr} (X : K.In h) (G : h.Ns mainGlobals mg) (hfa : mg "law" = some (.ref fa))
    {f0 f1 f2 f3 f4 f5 f6 f7 f8 f9 f10 f11 f12 : Addr} {od0 an0 od1 an1 od2 an2 od3 an3 od4 an4 od5 an5 od6 an6 od7 an7 od8 an8 od9 an9 od10 an10 od11 an11 od12 an12 : Option Addr} {sl0 sl1 sl2 sl3 sl4 sl5 sl6 sl7 sl8 sl9 sl10 sl11 sl12 : Array (Option Value)} {oc0 kV0 dc0 pm0 cd0 ct0 oc1 kV1 dc1 pm1 cd1 ct1 oc2 kV2 dc2 pm2 cd2 ct2 oc3 kV3 dc3 pm3 cd3 ct3 oc4 kV4 dc4 pm4 cd4 ct4 oc5 kV5 dc5 pm5 cd5 ct5 oc6 kV6 dc6 pm6 cd6 ct6 oc7 kV7 dc7 pm7 cd7 ct7 oc8 kV8 dc8 pm8 cd8 ct8 oc9 kV9 dc9 pm9 cd9 ct9 oc10 kV10 dc10 pm10 cd10 ct10 oc11 kV11 dc11 pm11 cd11 ct11 oc12 kV12 dc12 pm12 cd12 ct12 : Value} {t_HEADER : Tok}
    (a0 : PySem.W.nsIn K mainGlobals "is_block" = some (some (.ref f0)))
    (l0 : K.lookup f0 = some ⟨oc0, od0, .func (PySem.W.fnOf "is_block" "is_block" (defArgs s_is_block) (defBody s_is_block) (defScope s_is_block) .none kV0 dc0 pm0 an0 cd0 ct0), sl0⟩) (c0 : PySem.W.codeIn K cd0 "is_block" = true) (k0 : PySem.W.keepIn K (.ref f0) = true)
    (a1 : PySem.W.nsIn K mainGlobals "copy_block" = some (some (.ref f1)))
    (l1 : K.lookup f1 = some ⟨oc1, od1, .func (PySem.W.fnOf "copy_block" "copy_block" (defArgs s_copy_block) (defBody s_copy_block) (defScope s_copy_block) .none kV1 dc1 pm1 an1 cd1 ct1), sl1⟩) (c1 : PySem.W.codeIn K cd1 "copy_block" = true) (k1 : PySem.W.keepIn K (.ref f1) = true)
    (a2 : PySem.W.nsIn K mainGlobals "move_word" = some (some (.ref f2)))
    (l2 : K.lookup f2 = some ⟨oc2, od2, .func (PySem.W.fnOf "move_word" "move_word" (defArgs s_move_word) (defBody s_move_word) (defScope s_move_word) .none kV2 dc2 pm2 an2 cd2 ct2), sl2⟩) (c2 : PySem.W.codeIn K cd2 "move_word" = true) (k2 : PySem.W.keepIn K (.ref f2) = true)
    (a3 : PySem.W.nsIn K mainGlobals "collect" = some (some (.ref f3)))
    (l3 : K.lookup f3 = some ⟨oc3, od3, .func (PySem.W.fnOf "collect" "collect" (defArgs s_collect) (defBody s_collect) (defScope s_collect) .none kV3 dc3 pm3 an3 cd3 ct3), sl3⟩) (c3 : PySem.W.codeIn K cd3 "collect" = true) (k3 : PySem.W.keepIn K (.ref f3) = true)
    (a4 : PySem.W.nsIn K mainGlobals "reachable" = some (some (.ref f4)))
    (l4 : K.lookup f4 = some ⟨oc4, od4, .func (PySem.W.fnOf "reachable" "reachable" (defArgs s_reachable) (defBody s_reachable) (defScope s_reachable) .none kV4 dc4 pm4 an4 cd4 ct4), sl4⟩) (c4 : PySem.W.codeIn K cd4 "reachable" = true) (k4 : PySem.W.keepIn K (.ref f4) = true)
    (a5 : PySem.W.nsIn K mainGlobals "_law_same" = some (some (.ref f5)))
    (l5 : K.lookup f5 = some ⟨oc5, od5, .func (PySem.W.fnOf "_law_same" "_law_same" (defArgs s__law_same) (defBody s__law_same) (defScope s__law_same) .none kV5 dc5 pm5 an5 cd5 ct5), sl5⟩) (c5 : PySem.W.codeIn K cd5 "_law_same" = true) (k5 : PySem.W.keepIn K (.ref f5) = true)
    (a6 : PySem.W.nsIn K mainGlobals "_law_mix" = some (some (.ref f6)))
    (l6 : K.lookup f6 = some ⟨oc6, od6, .func (PySem.W.fnOf "_law_mix" "_law_mix" (defArgs s__law_mix) (defBody s__law_mix) (defScope s__law_mix) .none kV6 dc6 pm6 an6 cd6 ct6), sl6⟩) (c6 : PySem.W.codeIn K cd6 "_law_mix" = true) (k6 : PySem.W.keepIn K (.ref f6) = true)
    (a7 : PySem.W.nsIn K mainGlobals "_law_tape" = some (some (.ref f7)))
    (l7 : K.lookup f7 = some ⟨oc7, od7, .func (PySem.W.fnOf "_law_tape" "_law_tape" (defArgs s__law_tape) (defBody s__law_tape) (defScope s__law_tape) .none kV7 dc7 pm7 an7 cd7 ct7), sl7⟩) (c7 : PySem.W.codeIn K cd7 "_law_tape" = true) (k7 : PySem.W.keepIn K (.ref f7) = true)
    (a8 : PySem.W.nsIn K mainGlobals "_law_take" = some (some (.ref f8)))
    (l8 : K.lookup f8 = some ⟨oc8, od8, .func (PySem.W.fnOf "_law_take" "_law_take" (defArgs s__law_take) (defBody s__law_take) (defScope s__law_take) .none kV8 dc8 pm8 an8 cd8 ct8), sl8⟩) (c8 : PySem.W.codeIn K cd8 "_law_take" = true) (k8 : PySem.W.keepIn K (.ref f8) = true)
    (a9 : PySem.W.nsIn K mainGlobals "_law_words" = some (some (.ref f9)))
    (l9 : K.lookup f9 = some ⟨oc9, od9, .func (PySem.W.fnOf "_law_words" "_law_words" (defArgs s__law_words) (defBody s__law_words) (defScope s__law_words) .none kV9 dc9 pm9 an9 cd9 ct9), sl9⟩) (c9 : PySem.W.codeIn K cd9 "_law_words" = true) (k9 : PySem.W.keepIn K (.ref f9) = true)
    (a10 : PySem.W.nsIn K mainGlobals "_law_word" = some (some (.ref f10)))
    (l10 : K.lookup f10 = some ⟨oc10, od10, .func (PySem.W.fnOf "_law_word" "_law_word" (defArgs s__law_word) (defBody s__law_word) (defScope s__law_word) .none kV10 dc10 pm10 an10 cd10 ct10), sl10⟩) (c10 : PySem.W.codeIn K cd10 "_law_word" = true) (k10 : PySem.W.keepIn K (.ref f10) = true)
    (a11 : PySem.W.nsIn K mainGlobals "_law_live" = some (some (.ref f11)))
    (l11 : K.lookup f11 = some ⟨oc11, od11, .func (PySem.W.fnOf "_law_live" "_law_live" (defArgs s__law_live) (defBody s__law_live) (defScope s__law_live) .none kV11 dc11 pm11 an11 cd11 ct11), sl11⟩) (c11 : PySem.W.codeIn K cd11 "_law_live" = true) (k11 : PySem.W.keepIn K (.ref f11) = true)
    (a12 : PySem.W.nsIn K mainGlobals "law" = some (some (.ref f12)))
    (l12 : K.lookup f12 = some ⟨oc12, od12, .func (PySem.W.fnOf "law" "law" (defArgs s_law) (defBody s_law) (defScope s_law) .none kV12 dc12 pm12 an12 cd12 ct12), sl12⟩) (c12 : PySem.W.codeIn K cd12 "law" = true) (k12 : PySem.W.keepIn K (.ref f12) = true)
    (z_HEADER : PySem.W.nsIn K mainGlobals "HEADER" = some (some (.int 4 t_HEADER)))
    (zn_all : PySem.W.nsIn K mainGlobals "all" = some none)
    (zn_bool : PySem.W.nsIn K mainGlobals "bool" = some none)
    (zn_dict : PySem.W.nsIn K mainGlobals "dict" = some none)
    (zn_int : PySem.W.nsIn K mainGlobals "int" = some none)
    (zn_isinstance : PySem.W.nsIn K mainGlobals "isinstance" = some none)
    (zn_len : PySem.W.nsIn K mainGlobals "len" = some none)
    (zn_list : PySem.W.nsIn K mainGlobals "list" = some none)
    (zn_range : PySem.W.nsIn K mainGlobals "range" = some none)
    (zn_str : PySem.W.nsIn K mainGlobals "str" = some none)
    (zn_sum : PySem.W.nsIn K mainGlobals "sum" = some none)
    (zn_tuple : PySem.W.nsIn K mainGlobals "tuple" = some none)
    : ∃ fd : FuncData, (∀ (s : Shared) (v : Value), BindsTo s fd ⟨[v], []⟩ [("script", v)]) ∧ ∀ base : Heap, K.In base → base.Ns mainGlobals mg → FnOk l.prog w K mg base CX0 5 fa fd ["script"] (spLaw K) := by
  have e := hfa.symm.trans (PySem.W.mg_of X G a12)
  cases e
  have F0 := fun_mk (st := s_is_block) l0 c0 k0
  have b0 := F0.binds (ps := ["word"]) fun _ _ _ _ _ _ us hl => match us, hl with | [_], _ => rfl
  have F1 := fun_mk (st := s_copy_block) l1 c1 k1
  have b1 := F1.binds (ps := ["words", "address", "space", "moved"]) fun _ _ _ _ _ _ us hl => match us, hl with | [_, _, _, _], _ => rfl
  have F2 := fun_mk (st := s_move_word) l2 c2 k2
  have b2 := F2.binds (ps := ["words", "word", "space", "moved"]) fun _ _ _ _ _ _ us hl => match us, hl with | [_, _, _, _], _ => rfl
  have F3 := fun_mk (st := s_collect) l3 c3 k3
  have b3 := F3.binds (ps := ["words", "roots"]) fun _ _ _ _ _ _ us hl => match us, hl with | [_, _], _ => rfl
  have F4 := fun_mk (st := s_reachable) l4 c4 k4
  have b4 := F4.binds (ps := ["words", "roots"]) fun _ _ _ _ _ _ us hl => match us, hl with | [_, _], _ => rfl
  have F5 := fun_mk (st := s__law_same) l5 c5 k5
  have b5 := F5.binds (ps := ["a", "b"]) fun _ _ _ _ _ _ us hl => match us, hl with | [_, _], _ => rfl
  have F6 := fun_mk (st := s__law_mix) l6 c6 k6
  have b6 := F6.binds (ps := ["number"]) fun _ _ _ _ _ _ us hl => match us, hl with | [_], _ => rfl
  have F7 := fun_mk (st := s__law_tape) l7 c7 k7
  have b7 := F7.binds (ps := ["script", "budget"]) fun _ _ _ _ _ _ us hl => match us, hl with | [_, _], _ => rfl
  have F8 := fun_mk (st := s__law_take) l8 c8 k8
  have b8 := F8.binds (ps := ["tape", "many"]) fun _ _ _ _ _ _ us hl => match us, hl with | [_, _], _ => rfl
  have F9 := fun_mk (st := s__law_words) l9 c9 k9
  have b9 := F9.binds (ps := ["tape"]) fun _ _ _ _ _ _ us hl => match us, hl with | [_], _ => rfl
  have F10 := fun_mk (st := s__law_word) l10 c10 k10
  have b10 := F10.binds (ps := ["tape", "blocks"]) fun _ _ _ _ _ _ us hl => match us, hl with | [_, _], _ => rfl
  have F11 := fun_mk (st := s__law_live) l11 c11 k11
  have b11 := F11.binds (ps := ["words", "roots"]) fun _ _ _ _ _ _ us hl => match us, hl with | [_, _], _ => rfl
  have F12 := fun_mk (st := s_law) l12 c12 k12
  have b12 := F12.binds (ps := ["script"]) fun _ _ _ _ _ _ us hl => match us, hl with | [_], _ => rfl
  have T : Txt K mg { f_is_block := f0, d_is_block := _, f_copy_block := f1, d_copy_block := _, f_move_word := f2, d_move_word := _, f_collect := f3, d_collect := _, f_reachable := f4, d_reachable := _, f__law_same := f5, d__law_same := _, f__law_mix := f6, d__law_mix := _, f__law_tape := f7, d__law_tape := _, f__law_take := f8, d__law_take := _, f__law_words := f9, d__law_words := _, f__law_word := f10, d__law_word := _, f__law_live := f11, d__law_live := _, f_law := fa, d_law := _, c_HEADER := t_HEADER } := { F_is_block := F0, b_is_block := b0, g_is_block := PySem.W.mg_of X G a0, F_copy_block := F1, b_copy_block := b1, g_copy_block := PySem.W.mg_of X G a1, F_move_word := F2, b_move_word := b2, g_move_word := PySem.W.mg_of X G a2, F_collect := F3, b_collect := b3, g_collect := PySem.W.mg_of X G a3, F_reachable := F4, b_reachable := b4, g_reachable := PySem.W.mg_of X G a4, F__law_same := F5, b__law_same := b5, g__law_same := PySem.W.mg_of X G a5, F__law_mix := F6, b__law_mix := b6, g__law_mix := PySem.W.mg_of X G a6, F__law_tape := F7, b__law_tape := b7, g__law_tape := PySem.W.mg_of X G a7, F__law_take := F8, b__law_take := b8, g__law_take := PySem.W.mg_of X G a8, F__law_words := F9, b__law_words := b9, g__law_words := PySem.W.mg_of X G a9, F__law_word := F10, b__law_word := b10, g__law_word := PySem.W.mg_of X G a10, F__law_live := F11, b__law_live := b11, g__law_live := PySem.W.mg_of X G a11, F_law := F12, b_law := b12, g_law := PySem.W.mg_of X G a12, g_HEADER := PySem.W.mg_of X G z_HEADER, n_all := PySem.W.mg_none_of X G zn_all, n_bool := PySem.W.mg_none_of X G zn_bool, n_dict := PySem.W.mg_none_of X G zn_dict, n_int := PySem.W.mg_none_of X G zn_int, n_isinstance := PySem.W.mg_none_of X G zn_isinstance, n_len := PySem.W.mg_none_of X G zn_len, n_list := PySem.W.mg_none_of X G zn_list, n_range := PySem.W.mg_none_of X G zn_range, n_str := PySem.W.mg_none_of X G zn_str, n_sum := PySem.W.mg_none_of X G zn_sum, n_tuple := PySem.W.mg_none_of X G zn_tuple }
  exact ⟨_, fun s v => .of_eq rfl, fun base _ _ => ok_law T⟩
theorem walk {l : PySem.W.OpenLaw} {q : Program} {loose : List Str} {XP : (Str → Option Value) → Heap → Prop} {YP : World → Heap → Prop} {d : DefRec} {K : Params → PySem.W.Frag} (hn : l.most = some 63) (hdf : d.params.defaults = [])
    (hY : ∀ (w : World) (h : Heap), YP w h → (K w.params).In h)
    (F : ∀ (w : World) (mg : Str → Option Value) (fa : Addr) (h : Heap), (K w.params).In h → h.Ns mainGlobals mg → mg d.name = some (.ref fa) →
      ∃ fd : FuncData, (∀ (s : Shared) (u : Value), BindsTo s fd ⟨[u], []⟩ [("script", u)]) ∧ ∀ base : Heap, (K w.params).In base → base.Ns mainGlobals mg → FnOk l.prog w (K w.params) mg base CX0 5 fa fd ["script"] (spLaw (K w.params))) :
    PySem.W.WalkO q loose XP YP l.row.toRowW d [] (fun f vs => PySem.call f vs) :=
  L2.walk_of (n := 63) (k := 5) (x := "script") (CX := fun _ => CX0) (sp := fun w => spLaw (K w.params)) hn (by decide) hdf ⟨rfl, by decide, by decide⟩ hY F (fun _ _ a ns hl _ hS => ⟨a, ns, rfl, hS, hl, fun _ => rfl⟩) fun _ _ _ _ _ z => z
end K74
open PySem PySem.W PyProof.Rows in
set_option maxRecDepth 100000 in
set_option maxHeartbeats 0 in
theorem PySem.Challenge.cw_shapewright_k74_words_that_are_reached_holds : PySem.Challenge.rw_shapewright_k74_words_that_are_reached.Holds := by
  w_on; o_law; k_head; (case hw => w_witness2)
  k_fill
  refine K74.walk (l := PySem.Challenge.rw_shapewright_k74_words_that_are_reached) rfl rfl (fun w h Y => PySem.W.kIn_of Y) ?F
  case F =>
    intro w mg fa h KX G hmg
    refine' K74.all_mk KX G hmg ?a0 ?l0 ?c0 ?k0 ?a1 ?l1 ?c1 ?k1 ?a2 ?l2 ?c2 ?k2 ?a3 ?l3 ?c3 ?k3 ?a4 ?l4 ?c4 ?k4 ?a5 ?l5 ?c5 ?k5 ?a6 ?l6 ?c6 ?k6 ?a7 ?l7 ?c7 ?k7 ?a8 ?l8 ?c8 ?k8 ?a9 ?l9 ?c9 ?k9 ?a10 ?l10 ?c10 ?k10 ?a11 ?l11 ?c11 ?k11 ?a12 ?l12 ?c12 ?k12 ?z_HEADER ?zn_all ?zn_bool ?zn_dict ?zn_int ?zn_isinstance ?zn_len ?zn_list ?zn_range ?zn_str ?zn_sum ?zn_tuple
    (case a0 => k_is)
    (case l0 => k_is)
    (case c0 => k_is)
    (case k0 => k_is)
    (case a1 => k_is)
    (case l1 => k_is)
    (case c1 => k_is)
    (case k1 => k_is)
    (case a2 => k_is)
    (case l2 => k_is)
    (case c2 => k_is)
    (case k2 => k_is)
    (case a3 => k_is)
    (case l3 => k_is)
    (case c3 => k_is)
    (case k3 => k_is)
    (case a4 => k_is)
    (case l4 => k_is)
    (case c4 => k_is)
    (case k4 => k_is)
    (case a5 => k_is)
    (case l5 => k_is)
    (case c5 => k_is)
    (case k5 => k_is)
    (case a6 => k_is)
    (case l6 => k_is)
    (case c6 => k_is)
    (case k6 => k_is)
    (case a7 => k_is)
    (case l7 => k_is)
    (case c7 => k_is)
    (case k7 => k_is)
    (case a8 => k_is)
    (case l8 => k_is)
    (case c8 => k_is)
    (case k8 => k_is)
    (case a9 => k_is)
    (case l9 => k_is)
    (case c9 => k_is)
    (case k9 => k_is)
    (case a10 => k_is)
    (case l10 => k_is)
    (case c10 => k_is)
    (case k10 => k_is)
    (case a11 => k_is)
    (case l11 => k_is)
    (case c11 => k_is)
    (case k11 => k_is)
    (case a12 => k_is)
    (case l12 => k_is)
    (case c12 => k_is)
    (case k12 => k_is)
    (case z_HEADER => k_is)
    (case zn_all => k_is)
    (case zn_bool => k_is)
    (case zn_dict => k_is)
    (case zn_int => k_is)
    (case zn_isinstance => k_is)
    (case zn_len => k_is)
    (case zn_list => k_is)
    (case zn_range => k_is)
    (case zn_str => k_is)
    (case zn_sum => k_is)
    (case zn_tuple => k_is)
