import PyProof.Rows.All
import Wide.All
import OpenK.AllK
import Wide.FinOn
import HandS.ForMost
import HandS.ForExc
import HandS.ExcIs
import HandS.CallSlots
import HandS.Wide
import HandS.IsInst
import HandS.SortInts
import HandS.Deep
import HandS.Evl
import PySem.Challenge.RW_shapewright_k72_blocks_of_the_heap
set_option Elab.async false
set_option maxRecDepth 100000
set_option linter.all false
set_option maxHeartbeats 4000000
namespace K72
open PySem L2
theorem ixl {X : Cx} {K : PySem.W.Frag} (h : X.K = K) : IxR X (rIxL K) := by
  subst h
  exact ix_list
theorem ixt {X : Cx} {K : PySem.W.Frag} (h : X.K = K) : IxR X (rIxT K) := by
  subst h
  exact ix_tup
theorem hu65 {k : Nat} {A : Around} (hr : Room k A) : A.units + 65 < cLine := by
  have := hr.un
  omega
/-- a block that is read where c holds -/
theorem pss_when {X : Cx} {body : List Stmt} {t : TS} {c : Prop} (h : c → PSs X body t) : PSs X body (fun D σ H => c ∧ t D σ H) :=
  ⟨fun pins s σ H D I hw => (h hw.1).run pins s σ H D I hw.2⟩
theorem zc_of {cls : Value} {d : Option Addr} {oe : Obj} {C : Addr} (hc : cls = Value.ref C ∧ d = none) (hz : Zc cls d oe) : Zc (.ref C) none oe := by
  obtain ⟨h1, h2⟩ := hc
  subst h1 h2
  exact hz
/-- o.m(e, ..) in a try: what is raised is wished for at the slots -/
def tMethE (C : Addr) (m : Str) (sp : Sp) (E : L2.St → XK) (ta : TE) (t : TA) : TE := fun σ H Q => ta σ H fun x H1 => ∃ a dx fs, x = .ref a ∧ H1 a = some (.ins C dx fs) ∧ fs.lookup m = none ∧
  t σ H1 fun vs H2 => sp (x :: vs) H2 Q (E σ)
section
variable {X : Cx} {CX : CXT} {k : Nat} {f C : Addr} {fd : FuncData} {ps : List Str} {sp : Sp} {E : L2.St → XK} {m : Str} {pos apos : Pos} {e o : Expr} {es : List Expr} {ta : TE} {t : TA}
theorem pe_methE {pl : Sem Bool} (he : PE X o ta) (c : Cls X.K C) (hm : Meth X.K C m f) (F : FnOk X.prog X.w X.K X.mg X.base CX k f fd ps sp) (hr : Room k X.A) (hb : Binds X.K fd ps []) (hx : ∀ σ, PassesAt CX X σ (E σ)) (ha : PA X (e :: es) t)
    (hst : starEach (e :: es) X.env = (false, eval e X.env) :: starEach es X.env := by rfl) (hpl : (backTo pos (starEach es X.env)).any (·.1) = false := by rfl)
    (ht : eval (.Call (.Attribute o m apos) (e :: es) [] pos) X.env = (do
      let ov ← eval o X.env
      standAt apos.atName
      let (f, first) ← holding [ov] (getMethod ov m pl)
      callWith pos f first (backTo pos (starEach (e :: es) X.env)) (backToKw pos (keywordEach [] X.env))) := by rfl) :
    PE X (.Call (.Attribute o m apos) (e :: es) [] pos) (tMethE C m sp E ta t) := by
  refine ⟨fun pins s σ H Q I h => ?_⟩
  refine PySem.W.methodCall_KW (pl := pl) (thn (he.run pins s σ H _ I h) fun u s1 ⟨x, H1, I1, rx, a, dx, fs, ex, ea, l, q⟩ => ?_) ht
  subst ex
  obtain rfl : u = Value.ref a := rx
  refine getmeth_ok I1 ea c hm l ?_
  refine PySem.W.callWith_K (first := [.ref a]) (h₀ := X.base) I.ok.mod.kin hm.kp (thn (ha.run pos pins s1 σ H1 _ I1 q) fun us s2 ⟨vs, H2, I2, r, q2⟩ => ⟨I2.kIn, ?_⟩) hst hpl
  exact run_fnS (us := .ref a :: us) (vs := .ref a :: vs) F hr hb (hx σ) I2 (.cons rfl r) q2
end
def topS (i : Nat) : Stmt := PySem.Challenge.pw_shapewright_k72_blocks_of_the_heap.main.body.getD i (.Pass ⟨0, 0, 0, 0⟩)
abbrev s_is_block : Stmt := topS 7
abbrev N_is_block : List Str := ["word"]
theorem sc_is_block : FnScope N_is_block ["word"] (defScope s_is_block) := ⟨rfl, rfl, rfl, by decide +kernel, rfl, by decide +kernel, by decide +kernel⟩
abbrev s_Heap___init__ : Stmt := inClass (topS 8) 0
abbrev N_Heap___init__ : List Str := ["self", "cells"]
theorem sc_Heap___init__ : FnScope N_Heap___init__ ["self", "cells"] (defScope s_Heap___init__) := ⟨rfl, rfl, rfl, by decide +kernel, rfl, by decide +kernel, by decide +kernel⟩
abbrev s_Heap_fits : Stmt := inClass (topS 8) 1
abbrev N_Heap_fits : List Str := ["self", "n"]
theorem sc_Heap_fits : FnScope N_Heap_fits ["self", "n"] (defScope s_Heap_fits) := ⟨rfl, rfl, rfl, by decide +kernel, rfl, by decide +kernel, by decide +kernel⟩
abbrev s_Heap_make : Stmt := inClass (topS 8) 2
abbrev N_Heap_make : List Str := ["self", "kind", "a", "b", "fields", "address"]
theorem sc_Heap_make : FnScope N_Heap_make ["self", "kind", "a", "b", "fields"] (defScope s_Heap_make) := ⟨rfl, rfl, rfl, by decide +kernel, rfl, by decide +kernel, by decide +kernel⟩
abbrev s_Heap_address : Stmt := inClass (topS 8) 3
abbrev N_Heap_address : List Str := ["self", "word"]
theorem sc_Heap_address : FnScope N_Heap_address ["self", "word"] (defScope s_Heap_address) := ⟨rfl, rfl, rfl, by decide +kernel, rfl, by decide +kernel, by decide +kernel⟩
abbrev s_Heap_header : Stmt := inClass (topS 8) 4
abbrev N_Heap_header : List Str := ["self", "word", "at"]
theorem sc_Heap_header : FnScope N_Heap_header ["self", "word"] (defScope s_Heap_header) := ⟨rfl, rfl, rfl, by decide +kernel, rfl, by decide +kernel, by decide +kernel⟩
abbrev s_Heap_place : Stmt := inClass (topS 8) 5
abbrev N_Heap_place : List Str := ["self", "word", "i", "at"]
theorem sc_Heap_place : FnScope N_Heap_place ["self", "word", "i"] (defScope s_Heap_place) := ⟨rfl, rfl, rfl, by decide +kernel, rfl, by decide +kernel, by decide +kernel⟩
abbrev s_Heap_field : Stmt := inClass (topS 8) 6
abbrev N_Heap_field : List Str := ["self", "word", "i"]
theorem sc_Heap_field : FnScope N_Heap_field ["self", "word", "i"] (defScope s_Heap_field) := ⟨rfl, rfl, rfl, by decide +kernel, rfl, by decide +kernel, by decide +kernel⟩
abbrev s_Heap_store_field : Stmt := inClass (topS 8) 7
abbrev N_Heap_store_field : List Str := ["self", "word", "i", "value"]
theorem sc_Heap_store_field : FnScope N_Heap_store_field ["self", "word", "i", "value"] (defScope s_Heap_store_field) := ⟨rfl, rfl, rfl, by decide +kernel, rfl, by decide +kernel, by decide +kernel⟩
abbrev s__law_mix : Stmt := topS 10
abbrev N__law_mix : List Str := ["number"]
theorem sc__law_mix : FnScope N__law_mix ["number"] (defScope s__law_mix) := ⟨rfl, rfl, rfl, by decide +kernel, rfl, by decide +kernel, by decide +kernel⟩
abbrev s__law_tape : Stmt := topS 11
abbrev N__law_tape : List Str := ["script", "budget"]
theorem sc__law_tape : FnScope N__law_tape ["script", "budget"] (defScope s__law_tape) := ⟨rfl, rfl, rfl, by decide +kernel, rfl, by decide +kernel, by decide +kernel⟩
abbrev s__law_take : Stmt := topS 12
abbrev N__law_take : List Str := ["tape", "many", "cell", "digit"]
theorem sc__law_take : FnScope N__law_take ["tape", "many"] (defScope s__law_take) := ⟨rfl, rfl, rfl, by decide +kernel, rfl, by decide +kernel, by decide +kernel⟩
abbrev s__law_word : Stmt := topS 13
abbrev N__law_word : List Str := ["tape", "blocks", "draw"]
theorem sc__law_word : FnScope N__law_word ["tape", "blocks"] (defScope s__law_word) := ⟨rfl, rfl, rfl, by decide +kernel, rfl, by decide +kernel, by decide +kernel⟩
abbrev s__law_make : Stmt := topS 14
abbrev N__law_make : List Str := ["tape", "heap", "model", "blocks", "cells", "fields", "kept", "enough", "told", "kind", "a", "b", "word", "wrong", "k"]
theorem sc__law_make : FnScope N__law_make ["tape", "heap", "model", "blocks", "cells"] (defScope s__law_make) := ⟨rfl, rfl, rfl, by decide +kernel, rfl, by decide +kernel, by decide +kernel⟩
abbrev s__law_refused : Stmt := topS 15
abbrev N__law_refused : List Str := ["heap", "word", "i", "count", "wrong"]
theorem sc__law_refused : FnScope N__law_refused ["heap", "word", "i"] (defScope s__law_refused) := ⟨rfl, rfl, rfl, by decide +kernel, rfl, by decide +kernel, by decide +kernel⟩
abbrev s__law_look : Stmt := topS 16
abbrev N__law_look : List Str := ["tape", "heap", "model", "blocks", "at", "word", "i", "bad"]
theorem sc__law_look : FnScope N__law_look ["tape", "heap", "model", "blocks"] (defScope s__law_look) := ⟨rfl, rfl, rfl, by decide +kernel, rfl, by decide +kernel, by decide +kernel⟩
abbrev s_law : Stmt := topS 17
abbrev N_law : List Str := ["script", "tape", "cells", "heap", "second", "model", "blocks", "k", "fine"]
theorem sc_law : FnScope N_law ["script"] (defScope s_law) := ⟨rfl, rfl, rfl, by decide +kernel, rfl, by decide +kernel, by decide +kernel⟩
structure Adr where
  f_is_block : Addr
  d_is_block : FuncData
  f_Heap___init__ : Addr
  d_Heap___init__ : FuncData
  f_Heap_fits : Addr
  d_Heap_fits : FuncData
  f_Heap_make : Addr
  d_Heap_make : FuncData
  f_Heap_address : Addr
  d_Heap_address : FuncData
  f_Heap_header : Addr
  d_Heap_header : FuncData
  f_Heap_place : Addr
  d_Heap_place : FuncData
  f_Heap_field : Addr
  d_Heap_field : FuncData
  f_Heap_store_field : Addr
  d_Heap_store_field : FuncData
  f__law_mix : Addr
  d__law_mix : FuncData
  f__law_tape : Addr
  d__law_tape : FuncData
  f__law_take : Addr
  d__law_take : FuncData
  f__law_word : Addr
  d__law_word : FuncData
  f__law_make : Addr
  d__law_make : FuncData
  f__law_refused : Addr
  d__law_refused : FuncData
  f__law_look : Addr
  d__law_look : FuncData
  f_law : Addr
  d_law : FuncData
  c_HEADER : Tok
  c_Heap : Addr
  c_NoBlock : Addr
  c_OutOfRoom : Addr
  c_ShapewrightError : Addr
structure Txt (K : PySem.W.Frag) (mg : Str → Option Value) (A : Adr) : Prop where
  F_is_block : Fun K "is_block" "is_block" s_is_block A.f_is_block A.d_is_block
  b_is_block : Binds K A.d_is_block ["word"] []
  g_is_block : mg "is_block" = some (.ref A.f_is_block)
  F_Heap___init__ : Fun K "__init__" "Heap.__init__" s_Heap___init__ A.f_Heap___init__ A.d_Heap___init__
  b_Heap___init__ : Binds K A.d_Heap___init__ ["self", "cells"] []
  t_Heap___init__ : Meth K A.c_Heap "__init__" A.f_Heap___init__
  F_Heap_fits : Fun K "fits" "Heap.fits" s_Heap_fits A.f_Heap_fits A.d_Heap_fits
  b_Heap_fits : Binds K A.d_Heap_fits ["self", "n"] []
  t_Heap_fits : Meth K A.c_Heap "fits" A.f_Heap_fits
  F_Heap_make : Fun K "make" "Heap.make" s_Heap_make A.f_Heap_make A.d_Heap_make
  b_Heap_make : Binds K A.d_Heap_make ["self", "kind", "a", "b", "fields"] []
  t_Heap_make : Meth K A.c_Heap "make" A.f_Heap_make
  F_Heap_address : Fun K "address" "Heap.address" s_Heap_address A.f_Heap_address A.d_Heap_address
  b_Heap_address : Binds K A.d_Heap_address ["self", "word"] []
  t_Heap_address : Meth K A.c_Heap "address" A.f_Heap_address
  F_Heap_header : Fun K "header" "Heap.header" s_Heap_header A.f_Heap_header A.d_Heap_header
  b_Heap_header : Binds K A.d_Heap_header ["self", "word"] []
  t_Heap_header : Meth K A.c_Heap "header" A.f_Heap_header
  F_Heap_place : Fun K "place" "Heap.place" s_Heap_place A.f_Heap_place A.d_Heap_place
  b_Heap_place : Binds K A.d_Heap_place ["self", "word", "i"] []
  t_Heap_place : Meth K A.c_Heap "place" A.f_Heap_place
  F_Heap_field : Fun K "field" "Heap.field" s_Heap_field A.f_Heap_field A.d_Heap_field
  b_Heap_field : Binds K A.d_Heap_field ["self", "word", "i"] []
  t_Heap_field : Meth K A.c_Heap "field" A.f_Heap_field
  F_Heap_store_field : Fun K "store_field" "Heap.store_field" s_Heap_store_field A.f_Heap_store_field A.d_Heap_store_field
  b_Heap_store_field : Binds K A.d_Heap_store_field ["self", "word", "i", "value"] []
  t_Heap_store_field : Meth K A.c_Heap "store_field" A.f_Heap_store_field
  F__law_mix : Fun K "_law_mix" "_law_mix" s__law_mix A.f__law_mix A.d__law_mix
  b__law_mix : Binds K A.d__law_mix ["number"] []
  g__law_mix : mg "_law_mix" = some (.ref A.f__law_mix)
  F__law_tape : Fun K "_law_tape" "_law_tape" s__law_tape A.f__law_tape A.d__law_tape
  b__law_tape : Binds K A.d__law_tape ["script", "budget"] []
  g__law_tape : mg "_law_tape" = some (.ref A.f__law_tape)
  F__law_take : Fun K "_law_take" "_law_take" s__law_take A.f__law_take A.d__law_take
  b__law_take : Binds K A.d__law_take ["tape", "many"] []
  g__law_take : mg "_law_take" = some (.ref A.f__law_take)
  F__law_word : Fun K "_law_word" "_law_word" s__law_word A.f__law_word A.d__law_word
  b__law_word : Binds K A.d__law_word ["tape", "blocks"] []
  g__law_word : mg "_law_word" = some (.ref A.f__law_word)
  F__law_make : Fun K "_law_make" "_law_make" s__law_make A.f__law_make A.d__law_make
  b__law_make : Binds K A.d__law_make ["tape", "heap", "model", "blocks", "cells"] []
  g__law_make : mg "_law_make" = some (.ref A.f__law_make)
  F__law_refused : Fun K "_law_refused" "_law_refused" s__law_refused A.f__law_refused A.d__law_refused
  b__law_refused : Binds K A.d__law_refused ["heap", "word", "i"] []
  g__law_refused : mg "_law_refused" = some (.ref A.f__law_refused)
  F__law_look : Fun K "_law_look" "_law_look" s__law_look A.f__law_look A.d__law_look
  b__law_look : Binds K A.d__law_look ["tape", "heap", "model", "blocks"] []
  g__law_look : mg "_law_look" = some (.ref A.f__law_look)
  F_law : Fun K "law" "law" s_law A.f_law A.d_law
  b_law : Binds K A.d_law ["script"] []
  g_law : mg "law" = some (.ref A.f_law)
  g_HEADER : mg "HEADER" = some (.int 4 A.c_HEADER)
  g_Heap : mg "Heap" = some (.ref A.c_Heap)
  cl_Heap : Cls K A.c_Heap
  m_Heap : Mk K A.c_Heap A.f_Heap___init__
  no_Heap_cells : NoAttr K A.c_Heap "cells"
  no_Heap_words : NoAttr K A.c_Heap "words"
  no_Heap_begins : NoAttr K A.c_Heap "begins"
  g_OutOfRoom : mg "OutOfRoom" = some (.ref A.c_OutOfRoom)
  x_OutOfRoom : PySem.W.excIn K A.c_OutOfRoom [.type "ValueError", .type "Exception", .type "BaseException", .type "object"] "ValueError.__new__" = true
  k_OutOfRoom : PySem.W.keepIn K (.ref A.c_OutOfRoom) = true
  bs_OutOfRoom : PySem.W.subIn K (.ref A.c_OutOfRoom) (.type "BaseException") = some true
  ty_OutOfRoom : PySem.W.typeIn K (.ref A.c_OutOfRoom) = some (.type "type")
  em_OutOfRoom : PySem.W.exmOne K (.ref A.c_OutOfRoom) (.ref A.c_OutOfRoom) = some true
  ec_OutOfRoom : ExcC K A.c_OutOfRoom
  kit_OutOfRoom_ShapewrightError : PySem.W.kitOne K (.ref A.c_OutOfRoom) (.ref A.c_ShapewrightError) = some true
  kit_OutOfRoom_NoBlock : PySem.W.kitOne K (.ref A.c_OutOfRoom) (.ref A.c_NoBlock) = some false
  g_NoBlock : mg "NoBlock" = some (.ref A.c_NoBlock)
  x_NoBlock : PySem.W.excIn K A.c_NoBlock [.type "ValueError", .type "Exception", .type "BaseException", .type "object"] "ValueError.__new__" = true
  k_NoBlock : PySem.W.keepIn K (.ref A.c_NoBlock) = true
  bs_NoBlock : PySem.W.subIn K (.ref A.c_NoBlock) (.type "BaseException") = some true
  ty_NoBlock : PySem.W.typeIn K (.ref A.c_NoBlock) = some (.type "type")
  em_NoBlock : PySem.W.exmOne K (.ref A.c_NoBlock) (.ref A.c_NoBlock) = some true
  ec_NoBlock : ExcC K A.c_NoBlock
  kit_NoBlock_ShapewrightError : PySem.W.kitOne K (.ref A.c_NoBlock) (.ref A.c_ShapewrightError) = some true
  kit_NoBlock_OutOfRoom : PySem.W.kitOne K (.ref A.c_NoBlock) (.ref A.c_OutOfRoom) = some false
  g_ShapewrightError : mg "ShapewrightError" = some (.ref A.c_ShapewrightError)
  x_ShapewrightError : PySem.W.excIn K A.c_ShapewrightError [.type "ValueError", .type "Exception", .type "BaseException", .type "object"] "ValueError.__new__" = true
  k_ShapewrightError : PySem.W.keepIn K (.ref A.c_ShapewrightError) = true
  bs_ShapewrightError : PySem.W.subIn K (.ref A.c_ShapewrightError) (.type "BaseException") = some true
  ty_ShapewrightError : PySem.W.typeIn K (.ref A.c_ShapewrightError) = some (.type "type")
  em_ShapewrightError : PySem.W.exmOne K (.ref A.c_ShapewrightError) (.ref A.c_ShapewrightError) = some true
  ec_ShapewrightError : ExcC K A.c_ShapewrightError
  n_bool : mg "bool" = none
  n_int : mg "int" = none
  n_isinstance : mg "isinstance" = none
  n_len : mg "len" = none
  n_list : mg "list" = none
  n_range : mg "range" = none
  n_tuple : mg "tuple" = none
end K72

set_option Elab.async false
set_option maxRecDepth 100000
set_option linter.all false
set_option maxHeartbeats 4000000
namespace K72
open PySem L2
section
variable {P : Program} {w : World} {K : PySem.W.Frag} {mg : Str → Option Value} {base : Heap} {A : Adr}
/-! ### small words -/
/-- all but t stands, and nothing is new -/
def But (t : Addr) (H H' : Hp) : Prop := ∀ a, a ≠ t → H' a = H a
theorem But.refl {t : Addr} {H : Hp} : But t H H := fun _ _ => rfl
theorem But.trans {t : Addr} {H H1 H2 : Hp} (a : But t H H1) (b : But t H1 H2) : But t H H2 := fun x n => (b x n).trans (a x n)
theorem But.upd {t : Addr} {H : Hp} {o : HO} : But t H (upd H t o) := fun a n => upd_ne n
theorem at_int {ns : List Int} {p : Int} (h0 : 0 ≤ p) (h1 : p < ((ns.map V.int).length : Int)) : ∃ c : Int, atI (ns.map V.int) p = some (.int c) := by
  rw [List.length_map] at h1
  have hk : p.toNat < ns.length := by omega
  have e : p = ((p.toNat : Nat) : Int) := by omega
  have q : atI (ns.map V.int) ((p.toNat : Nat) : Int) = some (.int ns[p.toNat]) := atI_nat (by rw [List.getElem?_map, List.getElem?_eq_getElem hk] <;> rfl)
  rw [← e] at q
  exact ⟨_, q⟩
/-! ### the tape -/
def TapeAt (H : Hp) (t s : Addr) : Prop := ∃ (ns : List Int) (p d m b : Int), H t = some (.lst [.ref s, .int p, .int d, .int m, .int b]) ∧ H s = some (.lst (ns.map V.int)) ∧ 0 ≤ p ∧ 0 ≤ d ∧ 0 ≤ m
theorem TapeAt.ne {H : Hp} {t s : Addr} (h : TapeAt H t s) : s ≠ t := by
  obtain ⟨ns, p, d, m, b, h1, h2, _⟩ := h
  refine ne_of h2 h1 fun e => ?_
  cases ns with
  | nil => cases e
  | cons x r => cases e
theorem TapeAt.keep {H H' : Hp} {t s : Addr} (h : TapeAt H t s) (k : ∀ a o, H a = some o → (a = t ∨ a = s) → H' a = some o) : TapeAt H' t s := by
  obtain ⟨ns, p, d, m, b, h1, h2, h3⟩ := h
  exact ⟨ns, p, d, m, b, k _ _ h1 (.inl rfl), k _ _ h2 (.inr rfl), h3⟩
def spMix : Sp := fun vs H Q _ => ∃ n : Int, vs = [.int n] ∧ ∀ r : Int, 0 ≤ r → Q (.int r) H
theorem ok__law_mix (T : Txt K mg A) : FnOk P w K mg base CX0 1 A.f__law_mix A.d__law_mix ["number"] spMix := by
  refine T.F__law_mix.ok sc__law_mix (fun vs H Q E h => ?_) (fun cdv Ar outer s H vs Q E hr h => ?_)
  · obtain ⟨n, rfl, _⟩ := h
    rfl
  · obtain ⟨n, rfl, k⟩ := h
    refine ⟨_, (pss_cons (ps_set (i := 0) sc__law_mix.nd rfl (Or.inl rfl) (pe_op op_mod (pe_callTy call_int1 (by rfl) T.n_int (by decide +kernel) (pa_cons (pe_op op_add (pe_op op_mul (pv 0) pe_int) pe_int) pa_nil)) pe_int)) (pss_one (ps_ret (pe_op op_mod (pe_callTy call_int1 (by rfl) T.n_int (by decide +kernel) (pa_cons (pe_op op_add (pe_op op_fdivW (pe_op op_mul (pv 0) (pv 0)) pe_int) (pe_op op_mul (pv 0) pe_int)) pa_nil)) pe_int)))), ?_⟩
    refine ⟨_, rfl, _, _, rfl, rfl, .inr ⟨by decide, by decide⟩, _, _, rfl, rfl, .inl ⟨_, rfl, _, _, rfl, rfl, (show (0 : Int) < 18446744073709551616 by decide), ?_⟩⟩
    have h0 := Int.emod_nonneg (n * 6364136223846793005 + 1442695040888963407) (show (18446744073709551616 : Int) ≠ 0 by decide)
    have h1 := Int.emod_lt_of_pos (n * 6364136223846793005 + 1442695040888963407) (show (0 : Int) < 18446744073709551616 by decide)
    refine ⟨_, rfl, _, rfl, _, _, rfl, rfl, .inl ⟨?_, ?_⟩, _, _, rfl, rfl, ⟨by decide, by decide⟩, _, rfl, _, _, rfl, rfl, .inr ⟨by decide, by decide⟩, _, _, rfl, rfl, .inl ⟨_, rfl, _, _, rfl, rfl, (show (0 : Int) < 18446744073709551557 by decide), ?_⟩⟩
    · show -(2 ^ 64) < (n * 6364136223846793005 + 1442695040888963407) % 18446744073709551616
      omega
    · show (n * 6364136223846793005 + 1442695040888963407) % 18446744073709551616 < 2 ^ 64
      omega
    · exact k _ (Int.emod_nonneg _ (by decide))
def spTape (K : PySem.W.Frag) : Sp := fun vs H Q _ => ∃ (a : Addr) (ns : List Int) (b : Int), vs = [.ref a, .int b] ∧ SqL K H a (ns.map V.int) ∧
  ∀ (t s : Addr) (H' : Hp), H t = none → H s = none → Same H H' → TapeAt H' t s → Q (.ref t) H'
theorem ok__law_tape (T : Txt K mg A) : FnOk P w K mg base CX0 1 A.f__law_tape A.d__law_tape ["script", "budget"] (spTape K) := by
  refine T.F__law_tape.ok sc__law_tape (fun vs H Q E h => ?_) (fun cdv Ar outer s H vs Q E hr h => ?_)
  · obtain ⟨a, ns, b, rfl, _⟩ := h
    rfl
  · obtain ⟨a, ns, b, rfl, hS, k⟩ := h
    refine ⟨_, (pss_one (ps_ret (pe_lst (pa_cons (pe_callTy call_list_of (by rfl) T.n_list (by decide +kernel) (pa_cons (pv 0) pa_nil)) (pa_cons pe_int (pa_cons pe_int (pa_cons pe_int (pa_cons (pv 1) pa_nil)))))))), ?_⟩
    refine ⟨_, rfl, a, _, rfl, .inl hS, fun l hl => ⟨_, rfl, (by show 5 ≤ sizeLine; decide), fun t ht => ?_⟩⟩
    have nlt : l ≠ t := ne_of_none upd_same ht
    have ht0 : H t = none := by
      rw [upd_ne nlt.symm] at ht
      exact ht
    refine k t l _ ht0 hl (fun b o e => ?_) ⟨ns, 0, 0, 1, b, upd_same, ?_, by decide, by decide, by decide⟩
    · rw [upd_ne (ne_of_none e ht0), upd_ne (ne_of_none e hl)]
      exact e
    · rw [upd_ne nlt, upd_same]
def spTake : Sp := fun vs H Q _ => ∃ (t s : Addr) (many : Int), vs = [.ref t, .int many] ∧ 0 < many ∧ many < 1073741824 ∧ TapeAt H t s ∧
  ∀ (r : Int) (H' : Hp), 0 ≤ r → r < many → But t H H' → TapeAt H' t s → Q (.int r) H'
theorem ok__law_take (T : Txt K mg A) : FnOk P w K mg base CX0 2 A.f__law_take A.d__law_take ["tape", "many"] spTake := by
  have G__law_mix : FnOk P w K mg base CX0 1 A.f__law_mix A.d__law_mix _ _ := ok__law_mix T
  refine T.F__law_take.ok sc__law_take (fun vs H Q E h => ?_) (fun cdv Ar outer s H vs Q E hr h => ?_)
  · obtain ⟨t, s, many, rfl, _⟩ := h
    rfl
  · obtain ⟨t, s, many, rfl, hm0, hm1, hT, k⟩ := h
    have nst := hT.ne
    obtain ⟨ns, p, d, m, b, ht, hs, hp0, hd0, hmm⟩ := hT
    refine ⟨_, (Evl.pss_cut (ps_if (pt_cmpR op_lt (pe_ix (ixl (K := K) rfl) (pv 0) pe_int (fun _ _ => rfl)) (pv 1) (nomark _)) (pss_one (ps_if (pt_cmpR op_lt (pe_ix (ixl (K := K) rfl) (pv 0) pe_int (fun _ _ => rfl)) (pe_callB call_len_seq (by rfl) T.n_len PySem.boot_len (pa_cons (pe_ix (ixl (K := K) rfl) (pv 0) pe_int (fun _ _ => rfl)) pa_nil)) (nomark _)) (pss_cons (ps_set (i := 2) sc__law_take.nd rfl (Or.inl rfl) (pe_ix (ixl (K := K) rfl) (pe_ix (ixl (K := K) rfl) (pv 0) pe_int (fun _ _ => rfl)) (pe_ix (ixl (K := K) rfl) (pv 0) pe_int (fun _ _ => rfl)) (fun _ _ => rfl))) (Evl.pss_cut (ps_set (i := 2) sc__law_take.nd rfl (Or.inl rfl) (pe_ifExp (pt_cmpR op_ge (pv 2) pe_int (nomark _)) (pe_op op_mul pe_int (pv 2)) (pe_op op_sub (pe_op op_mul (pe_un un_neg pe_int) (pv 2)) pe_int))) (pss_cons (ps_asg (pe_op op_add (pe_ix (ixl (K := K) rfl) (pv 0) pe_int (fun _ _ => rfl)) pe_int) (pg_sub (pv 0) pe_int set_list)) (pss_cons (ps_asg (pe_call G__law_mix (hr.mono (by decide)) rfl T.g__law_mix T.F__law_mix.kp T.b__law_mix .nil pass0 (pa_cons (pe_op op_add (pe_ix (ixl (K := K) rfl) (pv 0) pe_int (fun _ _ => rfl)) (pv 2)) pa_nil)) (pg_sub (pv 0) pe_int set_list)) (pss_one (ps_asg (pe_ifExp (pt_cmpR op_ge (pv 2) (pe_op op_pow pe_int pe_int) (nomark _)) (pv 2) (pe_call G__law_mix (hr.mono (by decide)) rfl T.g__law_mix T.F__law_mix.kp T.b__law_mix .nil pass0 (pa_cons (pe_call G__law_mix (hr.mono (by decide)) rfl T.g__law_mix T.F__law_mix.kp T.b__law_mix .nil pass0 (pa_cons (pv 2) pa_nil)) pa_nil))) (pg_sub (pv 0) pe_int set_list))))))) (pss_cons (ps_asg (pe_call G__law_mix (hr.mono (by decide)) rfl T.g__law_mix T.F__law_mix.kp T.b__law_mix .nil pass0 (pa_cons (pe_op op_add (pe_ix (ixl (K := K) rfl) (pv 0) pe_int (fun _ _ => rfl)) pe_int) pa_nil)) (pg_sub (pv 0) pe_int set_list)) (pss_one (ps_asg (pe_ix (ixl (K := K) rfl) (pv 0) pe_int (fun _ _ => rfl)) (pg_sub (pv 0) pe_int set_list)))))) pss_nil) (pss_cons (ps_set (i := 3) sc__law_take.nd rfl (Or.inl rfl) (pe_op op_mod (pe_callTy call_int1 (by rfl) T.n_int (by decide +kernel) (pa_cons (pe_ix (ixl (K := K) rfl) (pv 0) pe_int (fun _ _ => rfl)) pa_nil)) (pv 1))) (pss_cons (ps_asg (pe_op op_fdiv (pe_ix (ixl (K := K) rfl) (pv 0) pe_int (fun _ _ => rfl)) (pv 1)) (pg_sub (pv 0) pe_int set_list)) (pss_one (ps_ret (pv 3)))))), ?_⟩
    refine ⟨fun σ' H' => ∃ (v2 v3 : Option V), σ' = [some (.ref t), some (.int many), v2, v3] ∧ But t H H' ∧ TapeAt H' t s, ?_, ?_⟩
    · refine ⟨_, rfl, t, _, _, _, rfl, rfl, SqL.of ht, rfl, _, rfl, _, _, rfl, rfl, _, rfl, ite2 (fun c => ?_) (fun c => ?_)⟩
      · refine ⟨_, rfl, t, _, _, _, rfl, rfl, SqL.of ht, rfl, _, rfl, t, _, _, _, rfl, rfl, SqL.of ht, rfl, s, _, rfl, .inl (SqL.of hs), _, _, rfl, rfl, _, rfl, ite2 (fun c2 => ?_) (fun c2 => ?_)⟩
        · obtain ⟨x, hx⟩ := at_int hp0 (of_decide_eq_true c2)
          refine ⟨_, rfl, t, _, _, _, rfl, rfl, SqL.of ht, rfl, _, rfl, t, _, _, _, rfl, rfl, SqL.of ht, rfl, s, _, _, _, rfl, rfl, SqL.of hs, hx, ?_⟩
          refine ⟨fun σ' H' => ∃ c : Int, 0 ≤ c ∧ σ' = [some (.ref t), some (.int many), some (.int c), none] ∧ H' = H, ?_, ?_⟩
          · refine ⟨_, rfl, _, _, rfl, rfl, _, rfl, ite2 (fun c3 => ?_) (fun c3 => ?_)⟩
            · refine ⟨_, rfl, _, _, rfl, rfl, .inl ⟨by decide, by decide⟩, 2 * x, ?_, rfl, rfl⟩
              have := of_decide_eq_true c3
              omega
            · refine ⟨_, rfl, _, rfl, _, _, rfl, rfl, .inl ⟨by decide, by decide⟩, _, _, rfl, rfl, -2 * x - 1, ?_, rfl, rfl⟩
              have := of_decide_eq_false (Bool.eq_false_iff.mpr c3)
              omega
          · rintro σ' H' ⟨c, hc0, rfl, rfl⟩
            refine ⟨_, rfl, t, _, _, _, rfl, rfl, SqL.of ht, rfl, _, _, rfl, rfl, _, rfl, t, _, _, 1, rfl, rfl, ht, rfl, ?_⟩
            refine ⟨_, rfl, t, _, _, _, rfl, rfl, SqL.of upd_same, rfl, _, rfl, _, _, rfl, rfl, _, rfl, fun r hr0 => ?_⟩
            refine ⟨_, rfl, t, _, _, 3, rfl, rfl, upd_same, rfl, ?_⟩
            refine ⟨_, rfl, _, _, rfl, rfl, ⟨by decide, by decide, by decide⟩, _, _, rfl, rfl, _, rfl, ite2 (fun c3 => ?_) (fun c3 => ?_)⟩
            · refine ⟨_, rfl, _, rfl, t, _, _, 2, rfl, rfl, upd_same, rfl, _, _, rfl, ?_, ns, p + 1, c, r, b, upd_same, ?_, by omega, hc0, hr0⟩
              · exact (But.upd.trans But.upd).trans But.upd
              · rw [upd_ne nst, upd_ne nst, upd_ne nst, hs]
            · refine ⟨_, rfl, _, rfl, fun r2 hr2 => ⟨_, rfl, fun r3 hr3 => ?_⟩⟩
              refine ⟨_, rfl, t, _, _, 2, rfl, rfl, upd_same, rfl, _, _, rfl, ?_, ns, p + 1, r3, r, b, upd_same, ?_, by omega, hr3, hr0⟩
              · exact (But.upd.trans But.upd).trans But.upd
              · rw [upd_ne nst, upd_ne nst, upd_ne nst, hs]
        · refine ⟨_, rfl, t, _, _, _, rfl, rfl, SqL.of ht, rfl, _, _, rfl, rfl, _, rfl, fun r hr0 => ?_⟩
          refine ⟨_, rfl, t, _, _, 3, rfl, rfl, ht, rfl, ?_⟩
          refine ⟨_, rfl, t, _, _, _, rfl, rfl, SqL.of upd_same, rfl, _, rfl, t, _, _, 2, rfl, rfl, upd_same, rfl, none, none, rfl, But.upd.trans But.upd, ns, p, r, r, b, upd_same, ?_, hp0, hr0, hr0⟩
          rw [upd_ne nst, upd_ne nst, hs]
      · exact ⟨none, none, rfl, But.refl, ns, p, d, m, b, ht, hs, hp0, hd0, hmm⟩
    · rintro σ' H1 ⟨v2, v3, rfl, hB, ns1, p1, d1, m1, b1, ht1, hs1, hp1, hd1, hm1'⟩
      refine ⟨_, rfl, t, _, _, _, rfl, rfl, SqL.of ht1, rfl, .inl ⟨_, rfl, _, rfl, _, _, rfl, rfl, hm0, ?_⟩⟩
      refine ⟨_, rfl, t, _, _, _, rfl, rfl, SqL.of ht1, rfl, _, rfl, _, _, rfl, rfl, ⟨hm0, hm1⟩, _, rfl, t, _, _, 2, rfl, rfl, ht1, rfl, ?_⟩
      refine ⟨_, rfl, k _ _ (Int.emod_nonneg _ (by omega)) (Int.emod_lt_of_pos _ hm0) (hB.trans But.upd) ⟨ns1, p1, d1 / many, m1, b1, upd_same, ?_, hp1, ?_, hm1'⟩⟩
      · rw [upd_ne nst, hs1]
      · exact Int.ediv_nonneg hd1 (by omega)
end
end K72

/-! The mathematics of blocks laid one after the other: plain lists, no program. -/
namespace GC
abbrev Blk := (Int × Int × Int) × List Int
def one (b : Blk) : List Int := b.1.1 :: b.1.2.1 :: b.1.2.2 :: (b.2.length : Int) :: b.2
def flat (bs : List Blk) : List Int := (bs.map one).flatten
def off (bs : List Blk) (j : Nat) : Nat := (flat (bs.take j)).length
theorem one_len (b : Blk) : (one b).length = 4 + b.2.length := by
  simp only [one, List.length_cons]; omega
theorem flat_nil : flat [] = [] := rfl
theorem flat_cons (b : Blk) (bs : List Blk) : flat (b :: bs) = one b ++ flat bs := by simp [flat]
theorem flat_append (a b : List Blk) : flat (a ++ b) = flat a ++ flat b := by simp [flat]
theorem flat_one (b : Blk) : flat [b] = one b := by simp [flat]
theorem off_zero (bs : List Blk) : off bs 0 = 0 := by simp [off, flat]
theorem off_succ {bs : List Blk} {j : Nat} {b : Blk} (h : bs[j]? = some b) : off bs (j + 1) = off bs j + 4 + b.2.length := by
  have hj := (List.getElem?_eq_some_iff.mp h).1
  unfold off
  rw [List.take_add_one, h, flat_append, List.length_append]
  show _ + (flat [b]).length = _
  rw [flat_one, one_len]; omega
theorem off_len (bs : List Blk) : off bs bs.length = (flat bs).length := by unfold off; rw [List.take_length]
theorem off_ge {bs : List Blk} {j : Nat} (h : bs.length ≤ j) : off bs j = (flat bs).length := by unfold off; rw [List.take_of_length_le h]
theorem off_app {a b : List Blk} {j : Nat} (h : j ≤ a.length) : off (a ++ b) j = off a j := by
  unfold off; rw [List.take_append_of_le_length h]
theorem off_step_le (bs : List Blk) (j : Nat) : off bs j ≤ off bs (j + 1) := by
  cases h : bs[j]? with
  | none =>
    have h2 := List.getElem?_eq_none_iff.mp h
    rw [off_ge h2, off_ge (Nat.le_succ_of_le h2)]; exact Nat.le_refl _
  | some b => rw [off_succ h]; omega
theorem off_mono (bs : List Blk) {i j : Nat} (h : i ≤ j) : off bs i ≤ off bs j := by
  induction h with
  | refl => exact Nat.le_refl _
  | step _ ih => exact Nat.le_trans ih (off_step_le bs _)
theorem off_lt {bs : List Blk} {i j : Nat} (h : i < j) (hi : i < bs.length) : off bs i + 4 ≤ off bs j := by
  have e : bs[i]? = some bs[i] := List.getElem?_eq_getElem hi
  have h1 := off_succ e
  have h2 := off_mono bs (show i + 1 ≤ j from h)
  omega
theorem off_inj {bs : List Blk} {i j : Nat} (hi : i < bs.length) (hj : j < bs.length) (h : off bs i = off bs j) : i = j := by
  rcases Nat.lt_trichotomy i j with q | q | q
  · have := off_lt q hi; omega
  · exact q
  · have := off_lt q hj; omega
/-- the offsets go by the lengths alone -/
theorem off_congr : ∀ {a b : List Blk} (_ : a.map (·.2.length) = b.map (·.2.length)) (j : Nat), off a j = off b j
  | [], [], _, _ => rfl
  | [], _ :: _, h, _ => by simp at h
  | _ :: _, [], h, _ => by simp at h
  | x :: a, y :: b, h, 0 => by rw [off_zero, off_zero]
  | x :: a, y :: b, h, j + 1 => by
    simp only [List.map_cons, List.cons.injEq] at h
    have ih := off_congr h.2 j
    unfold off at ih ⊢
    rw [List.take_succ_cons, List.take_succ_cons, flat_cons, flat_cons, List.length_append, List.length_append, one_len, one_len, ih, h.1]
theorem flat_split {bs : List Blk} {j : Nat} {b : Blk} (h : bs[j]? = some b) : flat bs = flat (bs.take j) ++ (one b ++ flat (bs.drop (j + 1))) := by
  obtain ⟨hj, e⟩ := List.getElem?_eq_some_iff.mp h
  have q : bs = bs.take j ++ (b :: bs.drop (j + 1)) := by
    rw [← e, ← List.drop_eq_getElem_cons hj, List.take_append_drop]
  conv => lhs; rw [q]
  rw [flat_append, flat_cons]
theorem drop_off {bs : List Blk} {j : Nat} {b : Blk} (h : bs[j]? = some b) : (flat bs).drop (off bs j) = one b ++ flat (bs.drop (j + 1)) := by
  rw [flat_split h]
  exact List.drop_left' rfl
theorem flat_len {bs : List Blk} {j : Nat} {b : Blk} (h : bs[j]? = some b) : off bs j + 4 + b.2.length ≤ (flat bs).length := by
  rw [← off_len, ← off_succ h]
  exact off_mono bs (List.getElem?_eq_some_iff.mp h).1
theorem get_at {bs : List Blk} {j : Nat} {b : Blk} (h : bs[j]? = some b) (i : Nat) (hi : i < 4 + b.2.length) : (flat bs)[off bs j + i]? = (one b)[i]? := by
  rw [← List.getElem?_drop, drop_off h]
  exact List.getElem?_append_left (by rw [one_len]; exact hi)
theorem get_cnt {bs : List Blk} {j : Nat} {b : Blk} (h : bs[j]? = some b) : (flat bs)[off bs j + 3]? = some (b.2.length : Int) := by
  rw [get_at h 3 (by omega)]; rfl
theorem get_fld {bs : List Blk} {j : Nat} {b : Blk} (h : bs[j]? = some b) (i : Nat) (hi : i < b.2.length) : (flat bs)[off bs j + 4 + i]? = b.2[i]? := by
  rw [show off bs j + 4 + i = off bs j + (4 + i) by omega, get_at h (4 + i) (by omega), show 4 + i = i + 4 by omega]
  rfl
theorem cut_all {bs : List Blk} {j : Nat} {b : Blk} (h : bs[j]? = some b) : ((flat bs).drop (off bs j)).take (4 + b.2.length) = one b := by
  rw [drop_off h, List.take_append_of_le_length (by rw [one_len]; exact Nat.le_refl _), ← one_len, List.take_length]
theorem cut_head {bs : List Blk} {j : Nat} {b : Blk} (h : bs[j]? = some b) : ((flat bs).drop (off bs j)).take 4 = [b.1.1, b.1.2.1, b.1.2.2, (b.2.length : Int)] := by
  rw [drop_off h, List.take_append_of_le_length (by rw [one_len]; omega)]
  rfl
theorem cut_fld {bs : List Blk} {j : Nat} {b : Blk} (h : bs[j]? = some b) : ((flat bs).drop (off bs j + 4)).take b.2.length = b.2 := by
  rw [← List.drop_drop, drop_off h]
  show (b.2 ++ flat (bs.drop (j + 1))).take b.2.length = b.2
  exact List.take_left' rfl
theorem set_fld {bs : List Blk} {j : Nat} {b : Blk} (h : bs[j]? = some b) (i : Nat) (hi : i < b.2.length) (v : Int) : (flat bs).set (off bs j + 4 + i) v = flat (bs.set j (b.1, b.2.set i v)) := by
  obtain ⟨hj, e⟩ := List.getElem?_eq_some_iff.mp h
  have h' : (bs.set j (b.1, b.2.set i v))[j]? = some (b.1, b.2.set i v) := List.getElem?_set_self hj
  rw [flat_split h', flat_split h, List.take_set_of_le (Nat.le_refl _), List.drop_set_of_lt (Nat.lt_succ_self _)]
  rw [List.set_append_right _ _ (by unfold off; omega)]
  congr 1
  rw [show off bs j + 4 + i - (flat (bs.take j)).length = 4 + i by unfold off; omega, List.set_append_left _ _ (by rw [one_len]; omega)]
  congr 1
  rw [show 4 + i = i + 4 by omega]
  simp [one, List.set_cons_succ]
theorem lens_set {bs : List Blk} {j : Nat} {b c : Blk} (h : bs[j]? = some b) (hc : c.2.length = b.2.length) : (bs.set j c).map (·.2.length) = bs.map (·.2.length) := by
  rw [List.map_set]
  apply List.ext_getElem?
  intro i
  by_cases q : i = j
  · subst q
    have hj := (List.getElem?_eq_some_iff.mp h).1
    rw [List.getElem?_set_self (by rw [List.length_map]; exact hj), List.getElem?_map, h]
    simp [hc]
  · rw [List.getElem?_set_ne (fun z => q z.symm)]
theorem off_set {bs : List Blk} {j : Nat} {b c : Blk} (h : bs[j]? = some b) (hc : c.2.length = b.2.length) (i : Nat) : off (bs.set j c) i = off bs i := off_congr (lens_set h hc) i

/-! ### words that name blocks -/
def Ptr (bs : List Blk) (w : Int) (j : Nat) : Prop := j < bs.length ∧ w = 4 * (off bs j : Int) + 1
def Good (bs : List Blk) (w : Int) : Prop := w % 4 ≠ 1 ∨ ∃ j, Ptr bs w j
theorem Ptr.mod {bs : List Blk} {w : Int} {j : Nat} (h : Ptr bs w j) : w % 4 = 1 := by
  obtain ⟨_, e⟩ := h
  omega
theorem Ptr.div {bs : List Blk} {w : Int} {j : Nat} (h : Ptr bs w j) : w / 4 = (off bs j : Int) := by
  obtain ⟨_, e⟩ := h
  omega
theorem Ptr.inj {bs : List Blk} {w : Int} {i j : Nat} (h : Ptr bs w i) (k : Ptr bs w j) : i = j := off_inj h.1 k.1 (by have a := h.2; have b := k.2; omega)
theorem Ptr.same {bs : List Blk} {w u : Int} {j : Nat} (h : Ptr bs w j) (k : Ptr bs u j) : w = u := h.2.trans k.2.symm
theorem Good.ptr {bs : List Blk} {w : Int} (h : Good bs w) (m : w % 4 = 1) : ∃ j, Ptr bs w j := h.resolve_left fun z => z m
structure WF (bs : List Blk) : Prop where
  few : ∀ b ∈ bs, b.2.length ≤ 3
  good : ∀ b ∈ bs, ∀ x ∈ b.2, Good bs x
theorem WF.at {bs : List Blk} (h : WF bs) {j : Nat} {b : Blk} (e : bs[j]? = some b) : b.2.length ≤ 3 ∧ ∀ x ∈ b.2, Good bs x :=
  ⟨h.few b (List.mem_of_getElem? e), h.good b (List.mem_of_getElem? e)⟩
/-- what a walk from the roots reaches: words that name blocks -/
inductive Reach (bs : List Blk) (rs : List Int) : Int → Prop where
  | root {x : Int} : x ∈ rs → x % 4 = 1 → Reach bs rs x
  | step {u x : Int} {j : Nat} {b : Blk} : Reach bs rs u → Ptr bs u j → bs[j]? = some b → x ∈ b.2 → x % 4 = 1 → Reach bs rs x
theorem Reach.mod {bs : List Blk} {rs : List Int} {x : Int} (h : Reach bs rs x) : x % 4 = 1 := by
  cases h with
  | root _ m => exact m
  | step _ _ _ _ m => exact m
theorem Reach.ptr {bs : List Blk} {rs : List Int} {x : Int} (W : WF bs) (R : ∀ x ∈ rs, Good bs x) (h : Reach bs rs x) : ∃ j, Ptr bs x j := by
  cases h with
  | root m q => exact (R _ m).ptr q
  | step _ _ e m q => exact ((W.at e).2 _ m).ptr q

/-! ### a walk with a list of what was seen and a list of what is to be done -/
structure Walk (bs : List Blk) (rs seen todo : List Int) : Prop where
  nd : seen.Nodup
  sr : ∀ x ∈ seen, Reach bs rs x
  tg : ∀ x ∈ todo, Good bs x
  tr : ∀ x ∈ todo, x % 4 = 1 → Reach bs rs x
  rt : ∀ x ∈ rs, x % 4 = 1 → x ∈ seen ∨ x ∈ todo
  cl : ∀ u ∈ seen, ∀ j b, Ptr bs u j → bs[j]? = some b → ∀ x ∈ b.2, x % 4 = 1 → x ∈ seen ∨ x ∈ todo
theorem Walk.start {bs : List Blk} {rs : List Int} (R : ∀ x ∈ rs, Good bs x) : Walk bs rs [] rs :=
  ⟨List.nodup_nil, fun _ h => (nomatch h), R, fun _ h m => .root h m, fun _ h _ => .inr h, fun _ h => (nomatch h)⟩
/-- the last one is done and not taken -/
theorem Walk.skip {bs : List Blk} {rs seen t : List Int} {x : Int} (W : Walk bs rs seen (t ++ [x])) (h : x % 4 = 1 → x ∈ seen) : Walk bs rs seen t := by
  have cut : ∀ y, y % 4 = 1 → y ∈ seen ∨ y ∈ t ++ [x] → y ∈ seen ∨ y ∈ t := fun y m q => by
    rcases q with q | q
    · exact .inl q
    · rcases List.mem_append.mp q with q | q
      · exact .inr q
      · have e : y = x := by simpa using q
        subst e
        exact .inl (h m)
  exact ⟨W.nd, W.sr, fun y q => W.tg y (List.mem_append_left _ q), fun y q => W.tr y (List.mem_append_left _ q), fun y q m => cut y m (W.rt y q m), fun u q j b p e y hy m => cut y m (W.cl u q j b p e y hy m)⟩
/-- .. and taken -/
theorem Walk.take {bs : List Blk} {rs seen t : List Int} {x : Int} {j : Nat} {b : Blk} (wf : WF bs) (W : Walk bs rs seen (t ++ [x])) (p : Ptr bs x j) (e : bs[j]? = some b) (n : x ∉ seen) : Walk bs rs (seen ++ [x]) (t ++ b.2) := by
  have hx : x ∈ t ++ [x] := List.mem_append_right _ (by simp)
  have rx : Reach bs rs x := W.tr x hx p.mod
  have put : ∀ y, y ∈ seen ∨ y ∈ t ++ [x] → y ∈ seen ++ [x] ∨ y ∈ t ++ b.2 := fun y q => by
    rcases q with q | q
    · exact .inl (List.mem_append_left _ q)
    · rcases List.mem_append.mp q with q | q
      · exact .inr (List.mem_append_left _ q)
      · exact .inl (List.mem_append_right _ q)
  refine ⟨?_, fun y q => ?_, fun y q => ?_, fun y q m => ?_, fun y q m => put y (W.rt y q m), fun u q i c hp hc y hy m => ?_⟩
  · rw [List.nodup_append]
    refine ⟨W.nd, by simp, fun a ha c hc z => ?_⟩
    have : c = x := by simpa using hc
    subst this; subst z
    exact n ha
  · rcases List.mem_append.mp q with q | q
    · exact W.sr y q
    · have : y = x := by simpa using q
      subst this
      exact rx
  · rcases List.mem_append.mp q with q | q
    · exact W.tg y (List.mem_append_left _ q)
    · exact (wf.at e).2 y q
  · rcases List.mem_append.mp q with q | q
    · exact W.tr y (List.mem_append_left _ q) m
    · exact .step rx p e q m
  · rcases List.mem_append.mp q with q | q
    · exact put y (W.cl u q i c hp hc y hy m)
    · have : u = x := by simpa using q
      subst this
      have : i = j := hp.inj p
      subst this
      rw [e] at hc
      cases hc
      exact .inr (List.mem_append_right _ hy)
theorem Walk.end {bs : List Blk} {rs seen : List Int} (W : Walk bs rs seen []) : ∀ x, x ∈ seen ↔ Reach bs rs x := by
  refine fun x => ⟨W.sr x, fun h => ?_⟩
  induction h with
  | root m q => exact (W.rt _ m q).resolve_right (fun z => nomatch z)
  | step _ p e m q ih => exact (W.cl _ ih _ _ p e _ m q).resolve_right (fun z => nomatch z)
theorem nodup_le {α : Type} [DecidableEq α] : ∀ {a b : List α}, a.Nodup → (∀ x ∈ a, x ∈ b) → a.length ≤ b.length
  | [], _, _, _ => Nat.zero_le _
  | x :: a, b, nd, h => by
    have nd' := List.nodup_cons.mp nd
    have hx : x ∈ b := h x List.mem_cons_self
    have ih := nodup_le (a := a) (b := b.erase x) nd'.2 fun y hy => (List.mem_erase_of_ne (fun z => nd'.1 (by rw [← z]; exact hy))).mpr (h y (List.mem_cons_of_mem _ hy))
    rw [List.length_erase_of_mem hx] at ih
    have : 0 < b.length := List.length_pos_of_mem hx
    rw [List.length_cons]
    omega
/-- as many as there are blocks, at most -/
theorem few_ptrs {bs : List Blk} {seen : List Int} (nd : seen.Nodup) (hp : ∀ x ∈ seen, ∃ j, Ptr bs x j) : seen.length ≤ bs.length := by
  have h2 := nodup_le (b := (List.range bs.length).map fun j => 4 * (off bs j : Int) + 1) nd fun x hx => by
    obtain ⟨j, hj, e⟩ := hp x hx
    exact List.mem_map.mpr ⟨j, List.mem_range.mpr hj, e.symm⟩
  rw [List.length_map, List.length_range] at h2
  exact h2
/-- the measure of a walk -/
def left (bs : List Blk) (seen todo : List Int) : Nat := 4 * (bs.length - seen.length) + todo.length
theorem Walk.few {bs : List Blk} {rs seen todo : List Int} (wf : WF bs) (R : ∀ x ∈ rs, Good bs x) (W : Walk bs rs seen todo) : seen.length ≤ bs.length := few_ptrs W.nd fun x hx => (W.sr x hx).ptr wf R
theorem left_skip {bs : List Blk} {seen t : List Int} {x : Int} : left bs seen t < left bs seen (t ++ [x]) := by
  unfold left; rw [List.length_append, List.length_singleton]; omega
theorem left_take {bs : List Blk} {rs seen t fs : List Int} {x : Int} (wf : WF bs) (R : ∀ x ∈ rs, Good bs x) (W : Walk bs rs (seen ++ [x]) (t ++ fs)) (h : fs.length ≤ 3) : left bs (seen ++ [x]) (t ++ fs) < left bs seen (t ++ [x]) := by
  have h1 := W.few wf R
  rw [List.length_append, List.length_singleton] at h1
  unfold left; simp only [List.length_append, List.length_singleton]; omega

/-! ### lists in order -/
theorem perm_sorted : ∀ {a b : List Int}, a.Pairwise (· ≤ ·) → b.Pairwise (· ≤ ·) → a.Perm b → a = b
  | [], b, _, _, p => (List.nil_perm.mp p).symm
  | x :: a, [], _, _, p => absurd p.length_eq (by simp)
  | x :: a, y :: b, ha, hb, p => by
    have ha' := List.pairwise_cons.mp ha
    have hb' := List.pairwise_cons.mp hb
    have e : x = y := by
      have h1 : x ∈ y :: b := p.subset List.mem_cons_self
      have h2 : y ∈ x :: a := p.symm.subset List.mem_cons_self
      have l1 : y ≤ x := by
        rcases List.mem_cons.mp h1 with z | z
        · omega
        · exact hb'.1 x z
      have l2 : x ≤ y := by
        rcases List.mem_cons.mp h2 with z | z
        · omega
        · exact ha'.1 y z
      omega
    subst e
    rw [perm_sorted ha'.2 hb'.2 ((List.perm_cons x).mp p)]

/-! ### the collection -/
def sel (bs : List Blk) (ks : List Nat) : List Blk := ks.map fun j => bs.getD j ((0, 0, 0), [])
theorem sel_get {bs : List Blk} {ks : List Nat} {i j : Nat} {b : Blk} (h : ks[i]? = some j) (e : bs[j]? = some b) : (sel bs ks)[i]? = some b := by
  unfold sel
  rw [List.getElem?_map, h]
  simp [List.getD_eq_getElem?_getD, e]
theorem sel_app (bs : List Blk) (ks l : List Nat) : sel bs (ks ++ l) = sel bs ks ++ sel bs l := by simp [sel]
theorem sel_len (bs : List Blk) (ks : List Nat) : (sel bs ks).length = ks.length := by simp [sel]
theorem noff_app {bs : List Blk} {ks l : List Nat} {i : Nat} (h : i ≤ ks.length) : off (sel bs (ks ++ l)) i = off (sel bs ks) i := by
  rw [sel_app]
  exact off_app (by rw [sel_len]; exact h)
/-- the word's new form -/
def Mv (bs : List Blk) (ks : List Nat) (x y : Int) : Prop := (x % 4 ≠ 1 ∧ y = x) ∨ ∃ j i, Ptr bs x j ∧ ks[i]? = some j ∧ y = 4 * (off (sel bs ks) i : Int) + 1
theorem Mv.mono {bs : List Blk} {ks : List Nat} {x y : Int} (l : List Nat) (h : Mv bs ks x y) : Mv bs (ks ++ l) x y := by
  rcases h with h | ⟨j, i, p, e, q⟩
  · exact .inl h
  · have hi := (List.getElem?_eq_some_iff.mp e).1
    exact .inr ⟨j, i, p, by rw [List.getElem?_append_left hi]; exact e, by rw [noff_app (Nat.le_of_lt hi)]; exact q⟩
theorem nd_ix {α : Type} {l : List α} (hN : l.Nodup) {i j : Nat} {x : α} (a : l[i]? = some x) (b : l[j]? = some x) : i = j := by
  obtain ⟨h1, e1⟩ := List.getElem?_eq_some_iff.mp a
  obtain ⟨h2, e2⟩ := List.getElem?_eq_some_iff.mp b
  exact (List.getElem_inj hN).mp (e1.trans e2.symm)
theorem Mv.fun {bs : List Blk} {ks : List Nat} (nd : ks.Nodup) {x y z : Int} (h : Mv bs ks x y) (k : Mv bs ks x z) : y = z := by
  rcases h with ⟨m, h⟩ | ⟨j, i, p, e, h⟩
  · rcases k with ⟨_, k⟩ | ⟨j, i, p, _⟩
    · rw [h, k]
    · exact absurd p.mod m
  · rcases k with ⟨m, _⟩ | ⟨j', i', p', e', k⟩
    · exact absurd p.mod m
    · have := p.inj p'
      subst this
      have := nd_ix nd e e'
      subst this
      rw [h, k]
theorem Mv.ptr {bs : List Blk} {ks : List Nat} {x y : Int} (h : Mv bs ks x y) (m : x % 4 = 1) : ∃ j i, Ptr bs x j ∧ ks[i]? = some j ∧ y = 4 * (off (sel bs ks) i : Int) + 1 := h.resolve_left fun z => z.1 m
theorem Mv.mod {bs : List Blk} {ks : List Nat} {x y : Int} (h : Mv bs ks x y) : y % 4 = 1 ↔ x % 4 = 1 := by
  rcases h with ⟨m, h⟩ | ⟨j, i, p, e, h⟩
  · rw [h]
  · have := p.mod
    omega
theorem Mv.same {bs : List Blk} {ks : List Nat} {x y : Int} (h : Mv bs ks x y) (m : x % 4 ≠ 1) : y = x := by
  rcases h with ⟨_, h⟩ | ⟨j, i, p, e, h⟩
  · exact h
  · exact absurd p.mod m
theorem Mv.inj {bs : List Blk} {ks : List Nat} {x z y : Int} (h : Mv bs ks x y) (k : Mv bs ks z y) : x = z := by
  by_cases m : x % 4 = 1
  · obtain ⟨j, i, p, e, h⟩ := h.ptr m
    have m2 : z % 4 = 1 := k.mod.mp (by omega)
    obtain ⟨j', i', p', e', k⟩ := k.ptr m2
    have hi := (List.getElem?_eq_some_iff.mp e).1
    have hi' := (List.getElem?_eq_some_iff.mp e').1
    have q : i = i' := off_inj (bs := sel bs ks) (by rw [sel_len]; exact hi) (by rw [sel_len]; exact hi') (by omega)
    subst q
    rw [e] at e'
    cases e'
    exact p.same p'
  · have e := h.same m
    have m2 : ¬ z % 4 = 1 := fun q => m (h.mod.mp (k.mod.mpr q))
    rw [← e, k.same m2]
/-- a block of the new space, its first t fields moved -/
structure BRel (bs : List Blk) (ks : List Nat) (t : Nat) (b c : Blk) : Prop where
  hdr : c.1 = b.1
  len : c.2.length = b.2.length
  mv : ∀ k x, k < t → b.2[k]? = some x → ∃ y, c.2[k]? = some y ∧ Mv bs ks x y
  raw : ∀ k, t ≤ k → c.2[k]? = b.2[k]?
theorem BRel.refl {bs : List Blk} {ks : List Nat} {b : Blk} : BRel bs ks 0 b b := ⟨rfl, rfl, fun _ _ h => absurd h (Nat.not_lt_zero _), fun _ _ => rfl⟩
theorem BRel.mono {bs : List Blk} {ks : List Nat} {t : Nat} {b c : Blk} (l : List Nat) (h : BRel bs ks t b c) : BRel bs (ks ++ l) t b c :=
  ⟨h.hdr, h.len, fun k x ht e => let ⟨y, q, m⟩ := h.mv k x ht e; ⟨y, q, m.mono l⟩, h.raw⟩
theorem BRel.next {bs : List Blk} {ks : List Nat} {t : Nat} {b c : Blk} {x y : Int} (h : BRel bs ks t b c) (e : b.2[t]? = some x) (m : Mv bs ks x y) : BRel bs ks (t + 1) b (c.1, c.2.set t y) := by
  have ht := (List.getElem?_eq_some_iff.mp e).1
  refine ⟨h.hdr, by simp [h.len], fun k z hk q => ?_, fun k hk => ?_⟩
  · by_cases kt : k = t
    · subst kt
      rw [e] at q
      cases q
      exact ⟨y, List.getElem?_set_self (by rw [h.len]; exact ht), m⟩
    · obtain ⟨y', q', m'⟩ := h.mv k z (by omega) q
      exact ⟨y', by rw [List.getElem?_set_ne (fun z => kt z.symm)]; exact q', m'⟩
  · rw [List.getElem?_set_ne (by omega)]
    exact h.raw k (by omega)
/-- the new space as it grows: sc tells how far each block has come -/
structure Space (bs : List Blk) (ks : List Nat) (sc : Nat → Nat) (nb : List Blk) : Prop where
  nd : ks.Nodup
  lt : ∀ j ∈ ks, j < bs.length
  len : nb.length = ks.length
  blk : ∀ i j b, ks[i]? = some j → bs[j]? = some b → ∃ c, nb[i]? = some c ∧ BRel bs ks (sc i) b c
theorem Space.lens {bs : List Blk} {ks : List Nat} {sc : Nat → Nat} {nb : List Blk} (S : Space bs ks sc nb) : nb.map (·.2.length) = (sel bs ks).map (·.2.length) := by
  apply List.ext_getElem?
  intro i
  rw [List.getElem?_map, List.getElem?_map]
  cases e : ks[i]? with
  | none =>
    have h := List.getElem?_eq_none_iff.mp e
    rw [List.getElem?_eq_none (by rw [S.len]; exact h), List.getElem?_eq_none (by rw [sel_len]; exact h)]
  | some j =>
    have hj := S.lt j (List.mem_of_getElem? e)
    have eb : bs[j]? = some bs[j] := List.getElem?_eq_getElem hj
    obtain ⟨c, ec, r⟩ := S.blk i j _ e eb
    rw [ec, sel_get e eb]
    simp [r.len]
theorem Space.off {bs : List Blk} {ks : List Nat} {sc : Nat → Nat} {nb : List Blk} (S : Space bs ks sc nb) (i : Nat) : off nb i = off (sel bs ks) i := off_congr S.lens i
theorem Space.start {bs : List Blk} {sc : Nat → Nat} : Space bs [] sc [] := ⟨List.nodup_nil, fun _ h => (nomatch h), rfl, fun i j b h => by simp at h⟩
theorem Space.few {bs : List Blk} {ks : List Nat} {sc : Nat → Nat} {nb : List Blk} (S : Space bs ks sc nb) : ks.length ≤ bs.length := by
  have := nodup_le (b := List.range bs.length) S.nd fun j h => List.mem_range.mpr (S.lt j h)
  rwa [List.length_range] at this
theorem Space.sc {bs : List Blk} {ks : List Nat} {sc sc' : Nat → Nat} {nb : List Blk} (S : Space bs ks sc nb) (h : ∀ i, i < ks.length → sc i = sc' i) : Space bs ks sc' nb :=
  ⟨S.nd, S.lt, S.len, fun i j b e eb => by
    rw [← h i (List.getElem?_eq_some_iff.mp e).1]
    exact S.blk i j b e eb⟩
/-- a new block at the end -/
theorem Space.add {bs : List Blk} {ks : List Nat} {sc : Nat → Nat} {nb : List Blk} {j : Nat} {b : Blk} (S : Space bs ks sc nb) (e : bs[j]? = some b) (n : j ∉ ks) (h0 : sc ks.length = 0) : Space bs (ks ++ [j]) sc (nb ++ [b]) := by
  refine ⟨?_, fun i h => ?_, by simp [S.len], fun i k c hk hc => ?_⟩
  · rw [List.nodup_append]
    refine ⟨S.nd, by simp, fun a ha c hc z => ?_⟩
    have : c = j := by simpa using hc
    subst this; subst z
    exact n ha
  · rcases List.mem_append.mp h with h | h
    · exact S.lt i h
    · have : i = j := by simpa using h
      subst this
      exact (List.getElem?_eq_some_iff.mp e).1
  · by_cases hi : i < ks.length
    · rw [List.getElem?_append_left hi] at hk
      obtain ⟨d, hd, r⟩ := S.blk i k c hk hc
      exact ⟨d, by rw [List.getElem?_append_left (by rw [S.len]; exact hi)]; exact hd, r.mono _⟩
    · rw [List.getElem?_append_right (by omega)] at hk
      have hi' : i - ks.length = 0 := by
        have := (List.getElem?_eq_some_iff.mp hk).1
        simp at this
        omega
      rw [hi'] at hk
      have : j = k := by simpa using hk
      subst this
      rw [e] at hc
      cases hc
      have : i = ks.length := by omega
      subst this
      rw [h0]
      exact ⟨b, by rw [List.getElem?_append_right (by rw [S.len]; exact Nat.le_refl _), S.len, Nat.sub_self] <;> rfl, BRel.refl⟩
/-- one field of block i is moved -/
theorem Space.set {bs : List Blk} {ks : List Nat} {sc : Nat → Nat} {nb : List Blk} {i j t : Nat} {b c : Blk} {x y : Int} (S : Space bs ks sc nb) (ei : ks[i]? = some j) (eb : bs[j]? = some b) (ec : nb[i]? = some c) (ht : sc i = t) (ex : b.2[t]? = some x) (m : Mv bs ks x y) :
    Space bs ks (fun k => if k = i then t + 1 else sc k) (nb.set i (c.1, c.2.set t y)) := by
  refine ⟨S.nd, S.lt, by simp [S.len], fun k l d hk hd => ?_⟩
  by_cases ki : k = i
  · subst ki
    rw [ei] at hk
    cases hk
    rw [eb] at hd
    cases hd
    obtain ⟨c', hc', r⟩ := S.blk _ _ _ ei eb
    rw [ec] at hc'
    cases hc'
    rw [ht] at r
    refine ⟨_, List.getElem?_set_self (List.getElem?_eq_some_iff.mp ec).1, ?_⟩
    rw [if_pos rfl]
    exact r.next ex m
  · obtain ⟨c', hc', r⟩ := S.blk k l d hk hd
    refine ⟨c', by rw [List.getElem?_set_ne (fun z => ki z.symm)]; exact hc', ?_⟩
    rw [if_neg ki]
    exact r
/-- what a collection hands back -/
structure Done (bs : List Blk) (rs : List Int) (ks : List Nat) (nb : List Blk) (ns : List Int) : Prop where
  sp : Space bs ks (fun _ => 3) nb
  keys : ∀ j, j ∈ ks ↔ j < bs.length ∧ Reach bs rs (4 * (off bs j : Int) + 1)
  len : ns.length = rs.length
  roots : ∀ (i : Nat) (x : Int), rs[i]? = some x → ∃ y, ns[i]? = some y ∧ Mv bs ks x y
theorem Done.flds {bs nb : List Blk} {rs ns : List Int} {ks : List Nat} (wf : WF bs) (D : Done bs rs ks nb ns) {i j : Nat} {b : Blk} (e : ks[i]? = some j) (eb : bs[j]? = some b) : ∃ c, nb[i]? = some c ∧ c.1 = b.1 ∧ c.2.length = b.2.length ∧ ∀ (k : Nat) (x : Int), b.2[k]? = some x → ∃ y, c.2[k]? = some y ∧ Mv bs ks x y := by
  obtain ⟨c, ec, r⟩ := D.sp.blk i j b e eb
  refine ⟨c, ec, r.hdr, r.len, fun k x hx => r.mv k x ?_ hx⟩
  have := (List.getElem?_eq_some_iff.mp hx).1
  have := (wf.at eb).1
  omega
theorem Done.mv {bs nb : List Blk} {rs ns : List Int} {ks : List Nat} (wf : WF bs) (R : ∀ x ∈ rs, Good bs x) (D : Done bs rs ks nb ns) {x : Int} (h : Reach bs rs x) : ∃ y, Mv bs ks x y := by
  obtain ⟨j, p⟩ := h.ptr wf R
  have hj : j ∈ ks := (D.keys j).mpr ⟨p.1, by rw [← p.2]; exact h⟩
  obtain ⟨i, hi, e⟩ := List.mem_iff_getElem.mp hj
  exact ⟨_, .inr ⟨j, i, p, by rw [List.getElem?_eq_getElem hi, e], rfl⟩⟩
/-- the new words of what is reached are the beginnings of the new blocks -/
theorem Done.news {bs nb : List Blk} {rs ns : List Int} {ks : List Nat} (wf : WF bs) (R : ∀ x ∈ rs, Good bs x) (D : Done bs rs ks nb ns) (y : Int) : (∃ x, Reach bs rs x ∧ Mv bs ks x y) ↔ ∃ i, i < nb.length ∧ y = 4 * (off nb i : Int) + 1 := by
  constructor
  · rintro ⟨x, h, m⟩
    obtain ⟨j, i, p, e, q⟩ := m.ptr h.mod
    exact ⟨i, by rw [D.sp.len]; exact (List.getElem?_eq_some_iff.mp e).1, by rw [D.sp.off]; exact q⟩
  · rintro ⟨i, hi, q⟩
    rw [D.sp.len] at hi
    have e : ks[i]? = some ks[i] := List.getElem?_eq_getElem hi
    have hj := (D.keys _).mp (List.mem_of_getElem? e)
    exact ⟨_, hj.2, .inr ⟨_, i, ⟨hj.1, rfl⟩, e, by rw [← D.sp.off]; exact q⟩⟩
theorem Done.wf {bs nb : List Blk} {rs ns : List Int} {ks : List Nat} (wf : WF bs) (D : Done bs rs ks nb ns) : WF nb := by
  have all : ∀ c ∈ nb, ∃ i j b, ks[i]? = some j ∧ bs[j]? = some b ∧ nb[i]? = some c := fun c hc => by
    obtain ⟨i, hi, e⟩ := List.mem_iff_getElem.mp hc
    have hk : i < ks.length := by rw [← D.sp.len]; exact hi
    have e1 : ks[i]? = some ks[i] := List.getElem?_eq_getElem hk
    have hj := D.sp.lt _ (List.mem_of_getElem? e1)
    exact ⟨i, _, _, e1, List.getElem?_eq_getElem hj, by rw [List.getElem?_eq_getElem hi, e]⟩
  refine ⟨fun c hc => ?_, fun c hc y hy => ?_⟩
  · obtain ⟨i, j, b, e1, e2, e3⟩ := all c hc
    obtain ⟨c', ec, _, hl, _⟩ := D.flds wf e1 e2
    rw [e3] at ec
    cases ec
    rw [hl]
    exact (wf.at e2).1
  · obtain ⟨i, j, b, e1, e2, e3⟩ := all c hc
    obtain ⟨c', ec, _, hl, hf⟩ := D.flds wf e1 e2
    rw [e3] at ec
    cases ec
    obtain ⟨k, hk, ek⟩ := List.mem_iff_getElem.mp hy
    obtain ⟨y', ey, m⟩ := hf k _ (List.getElem?_eq_getElem (by rw [← hl]; exact hk))
    rw [List.getElem?_eq_getElem hk, ek] at ey
    cases ey
    by_cases q : y % 4 = 1
    · obtain ⟨_, i', _, e', q'⟩ := m.ptr (m.mod.mp q)
      exact .inr ⟨i', by rw [D.sp.len]; exact (List.getElem?_eq_some_iff.mp e').1, by rw [D.sp.off]; exact q'⟩
    · exact .inl q
theorem Done.good {bs nb : List Blk} {rs ns : List Int} {ks : List Nat} (D : Done bs rs ks nb ns) : ∀ y ∈ ns, Good nb y := fun y hy => by
  obtain ⟨k, hk, ek⟩ := List.mem_iff_getElem.mp hy
  have hk' : k < rs.length := by rw [← D.len]; exact hk
  obtain ⟨y', ey, m⟩ := D.roots k _ (List.getElem?_eq_getElem hk')
  rw [List.getElem?_eq_getElem hk, ek] at ey
  cases ey
  by_cases q : y % 4 = 1
  · obtain ⟨_, i', _, e', q'⟩ := m.ptr (m.mod.mp q)
    exact .inr ⟨i', by rw [D.sp.len]; exact (List.getElem?_eq_some_iff.mp e').1, by rw [D.sp.off]; exact q'⟩
  · exact .inl q
/-- what is reached in the new space is what is reached in the old one -/
theorem Done.reach {bs nb : List Blk} {rs ns : List Int} {ks : List Nat} (wf : WF bs) (D : Done bs rs ks nb ns) (y : Int) : Reach nb ns y ↔ ∃ x, Reach bs rs x ∧ Mv bs ks x y := by
  constructor
  · intro h
    induction h with
    | @root y hy q =>
      obtain ⟨k, hk, ek⟩ := List.mem_iff_getElem.mp hy
      have hk' : k < rs.length := by rw [← D.len]; exact hk
      obtain ⟨y', ey, m⟩ := D.roots k _ (List.getElem?_eq_getElem hk')
      rw [List.getElem?_eq_getElem hk, ek] at ey
      cases ey
      exact ⟨_, .root (List.getElem_mem hk') (m.mod.mp q), m⟩
    | @step u y i c _ p ec hy q ih =>
      obtain ⟨x, hx, m⟩ := ih
      obtain ⟨j, i', pj, e', q'⟩ := m.ptr hx.mod
      have eo := p.2
      have hi' := (List.getElem?_eq_some_iff.mp e').1
      have : i = i' := off_inj p.1 (by rw [D.sp.len]; exact hi') (by rw [D.sp.off i']; omega)
      subst this
      obtain ⟨b, eb⟩ : ∃ b, bs[j]? = some b := ⟨_, List.getElem?_eq_getElem pj.1⟩
      obtain ⟨c', ec', _, hl, hf⟩ := D.flds wf e' eb
      rw [ec] at ec'
      cases ec'
      obtain ⟨k, hk, ek⟩ := List.mem_iff_getElem.mp hy
      have hkb : k < b.2.length := by rw [← hl]; exact hk
      obtain ⟨y', ey, m'⟩ := hf k _ (List.getElem?_eq_getElem hkb)
      rw [List.getElem?_eq_getElem hk, ek] at ey
      cases ey
      exact ⟨_, .step hx pj eb (List.getElem_mem hkb) (m'.mod.mp q), m'⟩
  · rintro ⟨x, h, m⟩
    induction h generalizing y with
    | @root x hx q =>
      obtain ⟨k, hk, ek⟩ := List.mem_iff_getElem.mp hx
      obtain ⟨y', ey, m'⟩ := D.roots k x (by rw [List.getElem?_eq_getElem hk, ek])
      have := m.fun D.sp.nd m'
      subst this
      exact .root (List.mem_of_getElem? ey) (m.mod.mpr q)
    | @step u x j b hu p eb hx q ih =>
      have hj : j ∈ ks := (D.keys j).mpr ⟨p.1, by rw [← p.2]; exact hu⟩
      obtain ⟨i, hi, e⟩ := List.mem_iff_getElem.mp hj
      have e' : ks[i]? = some j := by rw [List.getElem?_eq_getElem hi, e]
      have hm : Mv bs ks u (4 * (off (sel bs ks) i : Int) + 1) := .inr ⟨j, i, p, e', rfl⟩
      have ih := ih _ hm
      obtain ⟨c, ec, _, hl, hf⟩ := D.flds wf e' eb
      obtain ⟨k, hk, ek⟩ := List.mem_iff_getElem.mp hx
      obtain ⟨y', ey, m'⟩ := hf k x (by rw [List.getElem?_eq_getElem hk, ek])
      have := m.fun D.sp.nd m'
      subst this
      exact .step ih ⟨by rw [D.sp.len]; exact hi, by rw [D.sp.off]⟩ ec (List.mem_of_getElem? ey) (m.mod.mpr q)
end GC

set_option Elab.async false
set_option maxRecDepth 100000
set_option linter.all false
set_option maxHeartbeats 4000000
namespace K72
open PySem L2 GC
section
variable {P : Program} {w : World} {K : PySem.W.Frag} {mg : Str → Option Value} {base : Heap} {A : Adr}
abbrev nums (ns : List Int) : List V := ns.map V.int
def offs (bs : List Blk) : List Int := (List.range bs.length).map fun j => (off bs j : Int)
theorem offs_add (bs : List Blk) (b : Blk) : offs (bs ++ [b]) = offs bs ++ [((flat bs).length : Int)] := by
  unfold offs
  rw [List.length_append, List.length_singleton, List.range_succ, List.map_append]
  congr 1
  · apply List.map_congr_left
    intro j hj
    rw [off_app (Nat.le_of_lt (List.mem_range.mp hj))]
  · show [((off (bs ++ [b]) bs.length : Nat) : Int)] = _
    rw [off_app (Nat.le_refl _), off_len]
theorem offs_congr {a b : List Blk} (h : a.map (·.2.length) = b.map (·.2.length)) : offs a = offs b := by
  have hl : a.length = b.length := by simpa using congrArg List.length h
  unfold offs
  rw [hl]
  apply List.map_congr_left
  intro j _
  rw [off_congr h]
theorem offs_get {bs : List Blk} {i : Nat} (h : i < bs.length) : (offs bs)[i]? = some (off bs i : Int) := by
  unfold offs
  rw [List.getElem?_map, List.getElem?_range h]
  rfl
theorem mem_offs {bs : List Blk} {o : Int} : o ∈ offs bs ↔ ∃ j, j < bs.length ∧ o = (off bs j : Int) := by
  unfold offs
  rw [List.mem_map]
  constructor
  · rintro ⟨j, hj, e⟩
    exact ⟨j, List.mem_range.mp hj, e.symm⟩
  · rintro ⟨j, hj, e⟩
    exact ⟨j, List.mem_range.mpr hj, e.symm⟩
def GoodO (os : List Int) (x : Int) : Prop := x % 4 ≠ 1 ∨ ∃ o ∈ os, x = 4 * o + 1
theorem GoodO.good {bs : List Blk} {x : Int} (h : GoodO (offs bs) x) : Good bs x := by
  rcases h with h | ⟨o, ho, e⟩
  · exact .inl h
  · obtain ⟨j, hj, q⟩ := mem_offs.mp ho
    exact .inr ⟨j, hj, by rw [e, q]⟩
theorem lst_ne {H : Hp} {a b s : Addr} {ns : List Int} {r : List V} (h : H a = some (.lst (nums ns))) (h' : H b = some (.lst (.ref s :: r))) : a ≠ b := by
  refine ne_of h h' fun e => ?_
  cases ns with
  | nil => cases e
  | cons x r => cases e
theorem TapeAt.off_ints {H : Hp} {t s a : Addr} {ns : List Int} (T : TapeAt H t s) (h : H a = some (.lst (nums ns))) : a ≠ t := by
  obtain ⟨_, p, d, m, b, h1, _⟩ := T
  exact lst_ne h h1
theorem ixN_nat {n j : Nat} (h : j < n) : ixN n (j : Int) = some j := by
  unfold ixN
  rw [if_pos (by omega), if_pos (by omega)]
  simp
theorem at_ints {ns : List Int} {z x : Int} {j : Nat} (e : z = (j : Int)) (h : ns[j]? = some x) : atI (nums ns) z = some (.int x) := by
  rw [e]
  have q : atI (nums ns) (j : Int) = some (.int x) := atI_nat (by rw [List.getElem?_map, h] <;> rfl)
  exact q
end
end K72

set_option Elab.async false
set_option maxRecDepth 100000
set_option linter.all false
set_option maxHeartbeats 4000000
namespace K72
open PySem L2 GC
section
variable {P : Program} {w : World} {K : PySem.W.Frag} {mg : Str → Option Value} {base : Heap} {A : Adr}
theorem small_len {n : Nat} (h : n ≤ 100000) : n ≤ sizeLine := Nat.le_trans h (by decide)
theorem small_lt {n : Nat} (h : n < 100000) : n < sizeLine := Nat.lt_of_lt_of_le h (by decide)
theorem nums_app (a b : List Int) : nums (a ++ b) = nums a ++ nums b := List.map_append
theorem cut_nat {xs : List V} {i j : Nat} (h : i ≤ j) (hj : j ≤ xs.length) : cutV xs (some (i : Int)) (some (j : Int)) = (xs.drop i).take (j - i) := by
  unfold cutV
  rw [HT.sIx_nat, HT.sIx_nat, Nat.min_eq_left hj, Nat.min_eq_left (Nat.le_trans h hj)]
theorem cut_ints {ns : List Int} {i j : Nat} {a b : Int} (ea : a = (i : Int)) (eb : b = (j : Int)) (h : i ≤ j) (hj : j ≤ ns.length) : cutV (nums ns) (some a) (some b) = nums ((ns.drop i).take (j - i)) := by
  rw [ea, eb]
  have q : cutV (nums ns) (some (i : Int)) (some (j : Int)) = nums ((ns.drop i).take (j - i)) := by
    rw [cut_nat h (by rw [List.length_map]; exact hj)]
    simp only [nums, List.map_drop, List.map_take]
  exact q
theorem dec_one {x : Int} : decide (V.int x = V.int 1) = true ↔ x = 1 := by
  rw [decide_eq_true_iff]
  exact ⟨fun e => V.int.inj e, fun e => by rw [e]⟩
/-! ### the heap as an object -/
def hf (c : Int) (wd bg : Addr) : List (Str × V) := putF "begins" (.ref bg) (putF "words" (.ref wd) (putF "cells" (.int c) []))
theorem hf_no (c : Int) (wd bg : Addr) {m : Str} (h1 : ¬ m = "begins") (h2 : ¬ m = "words") (h3 : ¬ m = "cells") : (hf c wd bg).lookup m = none := by
  unfold hf
  rw [lookup_putF, if_neg h1, lookup_putF, if_neg h2, lookup_putF, if_neg h3]
  rfl
theorem hf_begins (c : Int) (wd bg : Addr) : (hf c wd bg).lookup ("begins" : Str) = some (.ref bg) := by
  unfold hf
  rw [lookup_putF, if_pos rfl]
theorem hf_words (c : Int) (wd bg : Addr) : (hf c wd bg).lookup ("words" : Str) = some (.ref wd) := by
  unfold hf
  rw [lookup_putF, if_neg (by decide +kernel), lookup_putF, if_pos rfl]
theorem hf_cells (c : Int) (wd bg : Addr) : (hf c wd bg).lookup ("cells" : Str) = some (.int c) := by
  unfold hf
  rw [lookup_putF, if_neg (by decide +kernel), lookup_putF, if_neg (by decide +kernel), lookup_putF, if_pos rfl]
theorem hf_len (c : Int) (wd bg : Addr) : (hf c wd bg).length ≤ 3 := by
  unfold hf
  have h1 := length_putF ("begins" : Str) (.ref bg) (putF "words" (.ref wd) (putF "cells" (.int c) []))
  have h2 := length_putF ("words" : Str) (.ref wd) (putF "cells" (.int c) [])
  have h3 := length_putF ("cells" : Str) (.int c) []
  simp only [List.length_nil] at h3
  omega
/-- what the heap holds: its blocks -/
structure HpAt (A : Adr) (H : Hp) (h wd bg : Addr) (c : Int) (bs : List Blk) : Prop where
  ob : ∃ dx, H h = some (.ins A.c_Heap dx (hf c wd bg))
  wd : H wd = some (.lst (nums (flat bs)))
  bg : ∃ kvs : List (Key × V), H bg = some (.dK kvs) ∧ kvs.length ≤ bs.length ∧ ∀ a : Int, (valV kvs (Sum.inl a)).isSome = decide (a ∈ offs bs)
theorem HpAt.keep {H H' : Hp} {h wd bg : Addr} {c : Int} {bs : List Blk} (q : HpAt A H h wd bg c bs) (k : ∀ a o, H a = some o → (a = h ∨ a = wd ∨ a = bg) → H' a = some o) : HpAt A H' h wd bg c bs := by
  obtain ⟨dx, e1⟩ := q.ob
  obtain ⟨kvs, e2, r⟩ := q.bg
  exact ⟨⟨dx, k _ _ e1 (.inl rfl)⟩, k _ _ q.wd (.inr (.inl rfl)), kvs, k _ _ e2 (.inr (.inr rfl)), r⟩
theorem offs_len (bs : List Blk) : (offs bs).length = bs.length := by unfold offs; rw [List.length_map, List.length_range]
def spIsB : Sp := fun vs H Q _ => ∃ x : Int, vs = [.int x] ∧ ∀ b : Bool, (b = true ↔ x % 4 = 1) → Q (.bl b) H
theorem ok_is_block (T : Txt K mg A) : FnOk P w K mg base CX0 1 A.f_is_block A.d_is_block ["word"] spIsB := by
  refine T.F_is_block.ok sc_is_block (fun vs H Q E h => ?_) (fun cdv Ar outer s H vs Q E hr h => ?_)
  · obtain ⟨x, rfl, _⟩ := h
    rfl
  · obtain ⟨x, rfl, k⟩ := h
    refine ⟨_, (pss_one (ps_ret (pe_cmpR op_eq (pe_op op_mod (pv 0) pe_int) pe_int (nomark _)))), ?_⟩
    exact ⟨_, rfl, _, _, rfl, rfl, (show (0 : Int) < 4 by decide), rfl, k _ dec_one⟩
def spInit (A : Adr) : Sp := fun vs H Q _ => ∃ (h dx : Addr) (c : Int), vs = [.ref h, .int c] ∧ H h = some (.ins A.c_Heap dx []) ∧ ∀ (wd bg : Addr) (H' : Hp), H wd = none → H bg = none → wd ≠ bg → wd ≠ h → bg ≠ h → (∀ a o, a ≠ h → H a = some o → H' a = some o) → HpAt A H' h wd bg c [] → Q .non H'
theorem ok_init (T : Txt K mg A) : FnOk P w K mg base CX0 1 A.f_Heap___init__ A.d_Heap___init__ ["self", "cells"] (spInit A) := by
  refine T.F_Heap___init__.ok sc_Heap___init__ (fun vs H Q E h => ?_) (fun cdv Ar outer s H vs Q E hr h => ?_)
  · obtain ⟨h, dx, c, rfl, _⟩ := h
    rfl
  · obtain ⟨h, dx, c, rfl, hh, k⟩ := h
    refine ⟨_, (pss_cons (ps_fld (pv 0) (pv 1) rfl) (pss_cons (ps_fld (pv 0) (pe_lst pa_nil) rfl) (pss_one (ps_fld (pv 0) pe_dnewK rfl)))), ?_⟩
    have l1 := length_putF ("cells" : Str) (.int c) []
    have l2 : ∀ wd, (putF ("words" : Str) (.ref wd) (putF ("cells" : Str) (.int c) [])).length ≤ 2 := fun wd => by
      have := length_putF ("words" : Str) (.ref wd) (putF ("cells" : Str) (.int c) [])
      simp only [List.length_nil] at l1
      omega
    simp only [List.length_nil] at l1
    refine ⟨_, rfl, _, rfl, h, A.c_Heap, dx, [], rfl, hh, T.cl_Heap, T.no_Heap_cells, (by show 0 < 1000; decide), ?_⟩
    refine ⟨Nat.zero_le _, fun wd hwd => ⟨_, rfl, h, A.c_Heap, dx, putF "cells" (.int c) [], rfl, ?_, T.cl_Heap, T.no_Heap_words, ?_, fun bg hbg => ⟨_, rfl, h, A.c_Heap, dx, putF "words" (.ref wd) (putF "cells" (.int c) []), rfl, ?_, T.cl_Heap, T.no_Heap_begins, ?_, ?_⟩⟩⟩
    · have : h ≠ wd := ne_of_none upd_same hwd
      rw [upd_ne this, upd_same]
    · omega
    · have : h ≠ bg := ne_of_none upd_same hbg
      rw [upd_ne this, upd_same]
    · have := l2 wd
      omega
    · have nhw : h ≠ wd := ne_of_none upd_same hwd
      have nhb : h ≠ bg := ne_of_none upd_same hbg
      have hwd0 : H wd = none := by rw [upd_ne nhw.symm] at hwd; exact hwd
      have nwb : wd ≠ bg := fun q => by
        rw [← q, upd_ne nhw.symm, upd_same] at hbg
        cases hbg
      have hbg0 : H bg = none := by
        rw [upd_ne nhb.symm, upd_ne nwb.symm, upd_ne nhb.symm] at hbg
        exact hbg
      refine k wd bg _ hwd0 hbg0 nwb nhw.symm nhb.symm (fun a o n e => ?_) ⟨⟨dx, upd_same⟩, ?_, [], ?_, Nat.le_refl _, fun a => rfl⟩
      · rw [upd_ne n, upd_ne (ne_of_none e hbg0), upd_ne n, upd_ne (ne_of_none e hwd0), upd_ne n]
        exact e
      · rw [upd_ne nhw.symm, upd_ne nwb, upd_ne nhw.symm, upd_same]
        rfl
      · rw [upd_ne nhb.symm, upd_same]
def spFits (A : Adr) : Sp := fun vs H Q _ => ∃ (h wd bg : Addr) (c n : Int) (bs : List Blk), vs = [.ref h, .int n] ∧ HpAt A H h wd bg c bs ∧ Q (.bl (decide (((flat bs).length : Int) + 4 + n ≤ c))) H
theorem ok_fits (T : Txt K mg A) : FnOk P w K mg base CX0 1 A.f_Heap_fits A.d_Heap_fits ["self", "n"] (spFits A) := by
  refine T.F_Heap_fits.ok sc_Heap_fits (fun vs H Q E h => ?_) (fun cdv Ar outer s H vs Q E hr h => ?_)
  · obtain ⟨h, wd, bg, c, n, bs, rfl, _⟩ := h
    rfl
  · obtain ⟨h, wd, bg, c, n, bs, rfl, hh, k⟩ := h
    obtain ⟨dx, ho⟩ := hh.ob
    refine ⟨_, (pss_one (ps_ret (pe_cmpR op_le (pe_op op_add (pe_op op_add (pe_callB call_len_seq (by rfl) T.n_len PySem.boot_len (pa_cons (pe_fld (pv 0) rfl) pa_nil)) (pe_glob (v := .int 4) rfl T.g_HEADER ⟨_, rfl⟩)) (pv 1)) (pe_fld (pv 0) rfl) (nomark _)))), ?_⟩
    refine ⟨_, rfl, h, A.c_Heap, dx, _, _, rfl, ho, T.cl_Heap, T.no_Heap_words, hf_words _ _ _, wd, _, rfl, .inl (SqL.of hh.wd), _, _, rfl, rfl, _, rfl, _, _, rfl, rfl, _, rfl, h, A.c_Heap, dx, _, _, rfl, ho, T.cl_Heap, T.no_Heap_cells, hf_cells _ _ _, _, _, rfl, rfl, ?_⟩
    rw [List.length_map]
    exact k
/-- a new block: H' behind it -/
def spMake (A : Adr) : Sp := fun vs H Q E => ∃ (h wd bg fl : Addr) (c x y z : Int) (bs : List Blk) (fs : List Int), vs = [.ref h, .int x, .int y, .int z, .ref fl] ∧ HpAt A H h wd bg c bs ∧ H fl = some (.lst (nums fs)) ∧ fl ≠ wd ∧ bs.length ≤ 100 ∧ (flat bs).length ≤ 1000 ∧ fs.length ≤ 100 ∧
  (((flat bs).length : Int) + 4 + (fs.length : Int) ≤ c → ∀ H', HpAt A H' h wd bg c (bs ++ [((x, y, z), fs)]) → (∀ a o, a ≠ wd → a ≠ bg → H a = some o → H' a = some o) → Q (.int (4 * ((flat bs).length : Int) + 1)) H') ∧
  (¬ ((flat bs).length : Int) + 4 + (fs.length : Int) ≤ c → E (.ref A.c_OutOfRoom) none H)
theorem ok_make (T : Txt K mg A) : FnOk P w K mg base (L2.CX P w) 2 A.f_Heap_make A.d_Heap_make ["self", "kind", "a", "b", "fields"] (spMake A) := by
  have G_Heap_fits : FnOk P w K mg base CX0 1 A.f_Heap_fits A.d_Heap_fits _ _ := ok_fits T
  refine T.F_Heap_make.okX sc_Heap_make (fun vs H Q E h => ?_) (fun cdv Ar outer s H vs Q E hr h => ?_)
  · obtain ⟨h, wd, bg, fl, c, x, y, z, bs, fs, rfl, _⟩ := h
    rfl
  · obtain ⟨h, wd, bg, fl, c, x, y, z, bs, fs, rfl, hh, hfl, nfw, hb1, hb2, hb3, k1, k2⟩ := h
    obtain ⟨dx, ho⟩ := hh.ob
    obtain ⟨kvs, hbg, hkl, hkv⟩ := hh.bg
    refine ⟨_, (pss_cons (ps_if (pt_not (pt_val (pe_meth (pv 0) T.cl_Heap T.t_Heap_fits G_Heap_fits (hr.mono (by decide)) T.b_Heap_fits .nil pass0 (pa_cons (pe_callB call_len_seq (by rfl) T.n_len PySem.boot_len (pa_cons (pv 4) pa_nil)) pa_nil)) (by intro _; rfl))) (pss_one (ps_raise rfl (takes_of rfl rfl rfl rfl) (pmk_own PySem.F.excBase_ValueError T.x_OutOfRoom T.g_OutOfRoom T.k_OutOfRoom (raises_own T.bs_OutOfRoom T.ty_OutOfRoom) (by exact rfl)))) pss_nil) (pss_cons (ps_set (i := 5) sc_Heap_make.nd rfl (Or.inl rfl) (pe_callB call_len_seq (by rfl) T.n_len PySem.boot_len (pa_cons (pe_fld (pv 0) rfl) pa_nil))) (pss_cons (ps_dput (hu_of hr) (pe_fld (pv 0) rfl) (pv 5) pe_bl rfl) (pss_cons (ps_expr (pe_bm PySem.F.plainAttrs_list PySem.F.slot_list_extend PySem.F.type_list_extend mt_extend (pe_fld (pv 0) rfl) (pa_cons (pe_lst (pa_cons (pv 1) (pa_cons (pv 2) (pa_cons (pv 3) (pa_cons (pe_callB call_len_seq (by rfl) T.n_len PySem.boot_len (pa_cons (pv 4) pa_nil)) pa_nil))))) pa_nil))) (pss_cons (ps_expr (pe_bm PySem.F.plainAttrs_list PySem.F.slot_list_extend PySem.F.type_list_extend mt_extend (pe_fld (pv 0) rfl) (pa_cons (pv 4) pa_nil))) (pss_one (ps_ret (pe_op op_add (pe_op op_mul pe_int (pv 5)) pe_int)))))))), ?_⟩
    refine ⟨_, rfl, h, dx, _, rfl, ho, hf_no _ _ _ (by decide +kernel) (by decide +kernel) (by decide +kernel), _, rfl, fl, _, rfl, .inl (SqL.of hfl), h, wd, bg, c, _, bs, rfl, hh, _, rfl, ?_⟩
    rw [List.length_map]
    by_cases hc : ((flat bs).length : Int) + 4 + (fs.length : Int) ≤ c
    · rw [decide_eq_true hc]
      refine iteF (A := _) ?_
      have nwb : wd ≠ bg := ne_of hh.wd hbg (by intro q; cases q)
      have nhw : h ≠ wd := ne_of ho hh.wd (by intro q; cases q)
      have nhb : h ≠ bg := ne_of ho hbg (by intro q; cases q)
      have nfb : fl ≠ bg := ne_of hfl hbg (by intro q; cases q)
      refine ⟨_, rfl, h, A.c_Heap, dx, _, _, rfl, ho, T.cl_Heap, T.no_Heap_words, hf_words _ _ _, wd, _, rfl, .inl (SqL.of hh.wd), ?_⟩
      -- self.begins[address] = True
      refine ⟨_, rfl, h, A.c_Heap, dx, _, _, rfl, ho, T.cl_Heap, T.no_Heap_begins, hf_begins _ _ _, _, rfl, bg, _, rfl, DPut.k (k := Sum.inl ((nums (flat bs)).length : Int)) hbg (small_lt (by omega)), ?_⟩
      have ho1 : ∀ o : HO, (upd H bg o) h = some (.ins A.c_Heap dx (hf c wd bg)) := fun o => by rw [upd_ne nhb]; exact ho
      have hw1 : ∀ o : HO, (upd H bg o) wd = some (.lst (nums (flat bs))) := fun o => by rw [upd_ne nwb]; exact hh.wd
      have hf1 : ∀ o : HO, (upd H bg o) fl = some (.lst (nums fs)) := fun o => by rw [upd_ne nfb]; exact hfl
      refine ⟨_, rfl, h, A.c_Heap, dx, _, _, rfl, ho1 _, T.cl_Heap, T.no_Heap_words, hf_words _ _ _, .inl ⟨rfl, _, SqL.of (hw1 _)⟩, _, rfl, _, rfl, _, rfl, _, rfl, fl, _, rfl, .inl (SqL.of (hf1 _)), (show 4 ≤ sizeLine by decide), fun p hp => ?_⟩
      have nwp : wd ≠ p := ne_of_none (hw1 _) hp
      have nhp : h ≠ p := ne_of_none (ho1 _) hp
      have nfp : fl ≠ p := ne_of_none (hf1 _) hp
      have nbp : bg ≠ p := ne_of_none upd_same hp
      refine ⟨wd, p, _, _, rfl, rfl, Eq.trans (upd_ne nwp) (hw1 _), upd_same, small_len (by simp only [List.length_map, List.length_cons, List.length_nil]; omega), ?_⟩
      refine ⟨_, rfl, h, A.c_Heap, dx, _, _, rfl, Eq.trans (upd_ne nhw) (Eq.trans (upd_ne nhp) (ho1 _)), T.cl_Heap, T.no_Heap_words, hf_words _ _ _, .inl ⟨rfl, _, SqL.of upd_same⟩, _, rfl, wd, fl, _, _, rfl, rfl, upd_same, Eq.trans (upd_ne nfw) (Eq.trans (upd_ne nfp) (hf1 _)), small_len (by simp only [List.length_map, List.length_append, List.length_cons, List.length_nil]; omega), ?_⟩
      refine ⟨_, rfl, _, _, rfl, rfl, .inl ⟨by decide, by decide⟩, _, _, rfl, rfl, ?_⟩
      rw [upd_upd, List.length_map]
      refine k1 hc _ ⟨⟨dx, by rw [upd_ne nhw, upd_ne nhp]; exact ho1 _⟩, ?_, _, (by rw [upd_ne nwb.symm, upd_ne nbp, upd_same]), ?_, fun a => ?_⟩ (fun a o n1 n2 e => ?_)
      · rw [upd_same, flat_append, flat_one, nums_app, List.length_map]
        show some (HO.lst ((nums (flat bs) ++ [V.int x, V.int y, V.int z, V.int (fs.length : Int)]) ++ nums fs)) = some (HO.lst (nums (flat bs) ++ ([V.int x, V.int y, V.int z, V.int (fs.length : Int)] ++ nums fs)))
        rw [List.append_assoc]
      · have := length_putK kvs (Sum.inl ((flat bs).length : Int) : Key) (.bl true)
        rw [List.length_append, List.length_singleton]
        omega
      · rw [valV_put, offs_add]
        by_cases q : a = ((flat bs).length : Int)
        · rw [if_pos (by rw [q])]
          simp [q]
        · rw [if_neg (fun z2 => q (Sum.inl.inj z2)), hkv a]
          simp [q]
      · have np : a ≠ p := fun q => by
          rw [upd_ne nbp.symm] at hp
          rw [q, hp] at e
          cases e
        rw [upd_ne n1, upd_ne np, upd_ne n2]
        exact e
    · rw [decide_eq_false hc]
      refine iteT (B := _) ?_
      exact k2 hc
def spAddr (A : Adr) : Sp := fun vs H Q E => ∃ (h wd bg : Addr) (c x : Int) (bs : List Blk), vs = [.ref h, .int x] ∧ HpAt A H h wd bg c bs ∧ (∀ j, Ptr bs x j → Q (.int (off bs j : Int)) H) ∧ ((∀ j, ¬ Ptr bs x j) → E (.ref A.c_NoBlock) none H)
theorem ok_address (T : Txt K mg A) : FnOk P w K mg base (L2.CX P w) 2 A.f_Heap_address A.d_Heap_address ["self", "word"] (spAddr A) := by
  have G_is_block : FnOk P w K mg base CX0 1 A.f_is_block A.d_is_block _ _ := ok_is_block T
  refine T.F_Heap_address.okX sc_Heap_address (fun vs H Q E h => ?_) (fun cdv Ar outer s H vs Q E hr h => ?_)
  · obtain ⟨h, wd, bg, c, x, bs, rfl, _⟩ := h
    rfl
  · obtain ⟨h, wd, bg, c, x, bs, rfl, hh, k1, k2⟩ := h
    obtain ⟨dx, ho⟩ := hh.ob
    obtain ⟨kvs, hbg, hkl, hkv⟩ := hh.bg
    refine ⟨_, (pss_cons (ps_if (PW.pt (pw_or (pt_not (pt_val (pe_call G_is_block (hr.mono (by decide)) rfl T.g_is_block T.F_is_block.kp T.b_is_block .nil pass0 (pa_cons (pv 1) pa_nil)) (by intro _; rfl))) (pw_or1 (pt_cmp (pc_dnotin (hu_of hr) (pe_op op_fdiv (pv 1) pe_int) (pe_fld (pv 0) rfl)))))) (pss_one (ps_raise rfl (takes_of rfl rfl rfl rfl) (pmk_own PySem.F.excBase_ValueError T.x_NoBlock T.g_NoBlock T.k_NoBlock (raises_own T.bs_NoBlock T.ty_NoBlock) (by exact rfl)))) pss_nil) (pss_one (ps_ret (pe_op op_fdiv (pv 1) pe_int)))), ?_⟩
    refine ⟨_, rfl, x, rfl, fun b hb => ⟨_, rfl, ?_⟩⟩
    cases b with
    | false =>
      refine iteT (B := _) ?_
      refine iteT (B := _) ?_
      exact k2 fun j p => by
        have := hb.mpr p.mod
        cases this
    | true =>
      have hx := hb.mp rfl
      refine iteF (A := _) ?_
      refine ⟨_, rfl, _, _, rfl, rfl, ⟨by decide, by decide⟩, _, rfl, h, A.c_Heap, dx, _, _, rfl, ho, T.cl_Heap, T.no_Heap_begins, hf_begins _ _ _, bg, _, rfl, DGet.k (k := Sum.inl (x / 4)) hbg, _, rfl, ?_⟩
      rw [hkv]
      by_cases q : x / 4 ∈ offs bs
      · rw [decide_eq_true q]
        refine iteF (A := _) ?_
        obtain ⟨j, hj, e⟩ := mem_offs.mp q
        refine ⟨_, rfl, _, _, rfl, rfl, ⟨by decide, by decide⟩, ?_⟩
        show Q (V.int (x / 4)) H
        rw [e]
        exact k1 j ⟨hj, by omega⟩
      · rw [decide_eq_false q]
        refine iteT (B := _) ?_
        exact k2 fun j p => q (mem_offs.mpr ⟨j, p.1, p.div⟩)
def spHeader (A : Adr) : Sp := fun vs H Q E => ∃ (h wd bg : Addr) (c x : Int) (bs : List Blk), vs = [.ref h, .int x] ∧ HpAt A H h wd bg c bs ∧
  (∀ j b, Ptr bs x j → bs[j]? = some b → ∀ (p : Addr) (H' : Hp), Same H H' → H' p = some (.tup (nums [b.1.1, b.1.2.1, b.1.2.2, (b.2.length : Int)])) → Q (.ref p) H') ∧ ((∀ j, ¬ Ptr bs x j) → E (.ref A.c_NoBlock) none H)
theorem ok_header (T : Txt K mg A) : FnOk P w K mg base (L2.CX P w) 3 A.f_Heap_header A.d_Heap_header ["self", "word"] (spHeader A) := by
  have G_Heap_address : FnOk P w K mg base (L2.CX P w) 2 A.f_Heap_address A.d_Heap_address _ _ := ok_address T
  refine T.F_Heap_header.okX sc_Heap_header (fun vs H Q E h => ?_) (fun cdv Ar outer s H vs Q E hr h => ?_)
  · obtain ⟨h, wd, bg, c, x, bs, rfl, _⟩ := h
    rfl
  · obtain ⟨h, wd, bg, c, x, bs, rfl, hh, k1, k2⟩ := h
    obtain ⟨dx, ho⟩ := hh.ob
    refine ⟨_, (pss_cons (ps_set (i := 2) sc_Heap_header.nd rfl (Or.inl rfl) (pe_meth (pv 0) T.cl_Heap T.t_Heap_address G_Heap_address (hr.mono (by decide)) T.b_Heap_address .nil (passes_call (takes_of rfl rfl rfl rfl) (fun _ _ _ _ h => h)) (pa_cons (pv 1) pa_nil))) (pss_one (ps_ret (pe_callTy call_tuple_of (by rfl) T.n_tuple (by decide +kernel) (pa_cons (pe_slice sl_list (pe_fld (pv 0) rfl) (po_some (pv 2)) (po_some (pe_op op_add (pv 2) (pe_glob (v := .int 4) rfl T.g_HEADER ⟨_, rfl⟩)))) pa_nil))))), ?_⟩
    refine ⟨_, rfl, h, dx, _, rfl, ho, hf_no _ _ _ (by decide +kernel) (by decide +kernel) (by decide +kernel), _, rfl, h, wd, bg, c, x, bs, rfl, hh, fun j p => ?_, k2⟩
    obtain ⟨b, eb⟩ : ∃ b, bs[j]? = some b := ⟨_, List.getElem?_eq_getElem p.1⟩
    have hfl := flat_len eb
    refine ⟨_, rfl, h, A.c_Heap, dx, _, _, rfl, ho, T.cl_Heap, T.no_Heap_words, hf_words _ _ _, _, rfl, _, rfl, _, rfl, _, _, rfl, rfl, _, rfl, wd, _, rfl, SqL.of hh.wd, fun q hq => ?_⟩
    have ecut : cutV (nums (flat bs)) (some (off bs j : Int)) (some ((off bs j : Int) + 4)) = nums [b.1.1, b.1.2.1, b.1.2.2, (b.2.length : Int)] := by
      rw [cut_ints (i := off bs j) (j := off bs j + 4) rfl (by omega) (by omega) (by omega), show off bs j + 4 - off bs j = 4 by omega, cut_head eb]
    rw [ecut]
    refine ⟨q, _, rfl, .inl ⟨SqL.of upd_same, fun l hl => ?_⟩⟩
    refine k1 j b p eb l _ (fun a o e => ?_) upd_same
    have e2 : (upd H q (.lst (nums [b.1.1, b.1.2.1, b.1.2.2, (b.2.length : Int)]))) a = some o := by
      rw [upd_ne (ne_of_none e hq)]
      exact e
    rw [upd_ne (ne_of_none e2 hl)]
    exact e2
def spPlace (A : Adr) : Sp := fun vs H Q E => ∃ (h wd bg : Addr) (c x i : Int) (bs : List Blk), vs = [.ref h, .int x, .int i] ∧ HpAt A H h wd bg c bs ∧
  (∀ j b, Ptr bs x j → bs[j]? = some b → 0 ≤ i → i < (b.2.length : Int) → Q (.int ((off bs j : Int) + 4 + i)) H) ∧ ((∀ j b, Ptr bs x j → bs[j]? = some b → ¬ (0 ≤ i ∧ i < (b.2.length : Int))) → E (.ref A.c_NoBlock) none H)
theorem ok_place (T : Txt K mg A) : FnOk P w K mg base (L2.CX P w) 3 A.f_Heap_place A.d_Heap_place ["self", "word", "i"] (spPlace A) := by
  have G_Heap_address : FnOk P w K mg base (L2.CX P w) 2 A.f_Heap_address A.d_Heap_address _ _ := ok_address T
  refine T.F_Heap_place.okX sc_Heap_place (fun vs H Q E h => ?_) (fun cdv Ar outer s H vs Q E hr h => ?_)
  · obtain ⟨h, wd, bg, c, x, i, bs, rfl, _⟩ := h
    rfl
  · obtain ⟨h, wd, bg, c, x, i, bs, rfl, hh, k1, k2⟩ := h
    obtain ⟨dx, ho⟩ := hh.ob
    refine ⟨_, (pss_cons (ps_set (i := 3) sc_Heap_place.nd rfl (Or.inl rfl) (pe_meth (pv 0) T.cl_Heap T.t_Heap_address G_Heap_address (hr.mono (by decide)) T.b_Heap_address .nil (passes_call (takes_of rfl rfl rfl rfl) (fun _ _ _ _ h => h)) (pa_cons (pv 1) pa_nil))) (pss_cons (ps_if (pt_not (pt_chain op_le op_lt pe_int (pv 2) (pe_ix (ixl (K := K) rfl) (pe_fld (pv 0) rfl) (pe_op op_add (pv 3) pe_int) (fun _ _ => rfl)))) (pss_one (ps_raise rfl (takes_of rfl rfl rfl rfl) (pmk_own PySem.F.excBase_ValueError T.x_NoBlock T.g_NoBlock T.k_NoBlock (raises_own T.bs_NoBlock T.ty_NoBlock) (by exact rfl)))) pss_nil) (pss_one (ps_ret (pe_op op_add (pe_op op_add (pv 3) (pe_glob (v := .int 4) rfl T.g_HEADER ⟨_, rfl⟩)) (pv 2)))))), ?_⟩
    refine ⟨_, rfl, h, dx, _, rfl, ho, hf_no _ _ _ (by decide +kernel) (by decide +kernel) (by decide +kernel), _, rfl, h, wd, bg, c, x, bs, rfl, hh, fun j p => ?_, fun no => k2 fun j b p _ => absurd p (no j)⟩
    obtain ⟨b, eb⟩ : ∃ b, bs[j]? = some b := ⟨_, List.getElem?_eq_getElem p.1⟩
    have hfl := flat_len eb
    have same : ∀ j' b', Ptr bs x j' → bs[j']? = some b' → b' = b := fun j' b' p' e' => by
      have := p'.inj p
      subst this
      rw [eb] at e'
      cases e'
      rfl
    refine ⟨_, rfl, _, _, rfl, rfl, _, rfl, ?_⟩
    by_cases h0 : 0 ≤ i
    · rw [decide_eq_true h0]
      refine iteT (B := _) ?_
      refine ⟨_, rfl, h, A.c_Heap, dx, _, _, rfl, ho, T.cl_Heap, T.no_Heap_words, hf_words _ _ _, _, rfl, _, _, rfl, rfl, wd, _, _, _, rfl, rfl, SqL.of hh.wd, at_ints (j := off bs j + 3) (by omega) (get_cnt eb), _, _, rfl, rfl, _, rfl, ?_⟩
      by_cases h1 : i < (b.2.length : Int)
      · rw [decide_eq_true h1]
        refine iteF (A := _) ?_
        exact ⟨_, rfl, _, _, rfl, rfl, _, rfl, _, _, rfl, rfl, k1 j b p eb h0 h1⟩
      · rw [decide_eq_false h1]
        refine iteT (B := _) ?_
        exact k2 fun j' b' p' e' z => h1 (by rw [same j' b' p' e'] at z; exact z.2)
    · rw [decide_eq_false h0]
      refine iteF (A := _) ?_
      refine ⟨_, rfl, ?_⟩
      refine iteT (B := _) ?_
      exact k2 fun j' b' _ _ z => h0 z.1
def spField (A : Adr) : Sp := fun vs H Q E => ∃ (h wd bg : Addr) (c x i : Int) (bs : List Blk), vs = [.ref h, .int x, .int i] ∧ HpAt A H h wd bg c bs ∧
  (∀ j b v, Ptr bs x j → bs[j]? = some b → 0 ≤ i → b.2[i.toNat]? = some v → Q (.int v) H) ∧ ((∀ j b, Ptr bs x j → bs[j]? = some b → ¬ (0 ≤ i ∧ i < (b.2.length : Int))) → E (.ref A.c_NoBlock) none H)
theorem ok_field (T : Txt K mg A) : FnOk P w K mg base (L2.CX P w) 4 A.f_Heap_field A.d_Heap_field ["self", "word", "i"] (spField A) := by
  have G_Heap_place : FnOk P w K mg base (L2.CX P w) 3 A.f_Heap_place A.d_Heap_place _ _ := ok_place T
  refine T.F_Heap_field.okX sc_Heap_field (fun vs H Q E h => ?_) (fun cdv Ar outer s H vs Q E hr h => ?_)
  · obtain ⟨h, wd, bg, c, x, i, bs, rfl, _⟩ := h
    rfl
  · obtain ⟨h, wd, bg, c, x, i, bs, rfl, hh, k1, k2⟩ := h
    obtain ⟨dx, ho⟩ := hh.ob
    refine ⟨_, (pss_one (ps_ret (pe_ix (ixl (K := K) rfl) (pe_fld (pv 0) rfl) (pe_meth (pv 0) T.cl_Heap T.t_Heap_place G_Heap_place (hr.mono (by decide)) T.b_Heap_place .nil (passes_call (takes_of rfl rfl rfl rfl) (fun _ _ _ _ h => h)) (pa_cons (pv 1) (pa_cons (pv 2) pa_nil))) (fun _ _ => rfl)))), ?_⟩
    refine ⟨_, rfl, h, A.c_Heap, dx, _, _, rfl, ho, T.cl_Heap, T.no_Heap_words, hf_words _ _ _, _, rfl, h, dx, _, rfl, ho, hf_no _ _ _ (by decide +kernel) (by decide +kernel) (by decide +kernel), _, rfl, _, rfl, h, wd, bg, c, x, i, bs, rfl, hh, fun j b p eb h0 h1 => ?_, k2⟩
    have hi : i.toNat < b.2.length := by omega
    have ev : b.2[i.toNat]? = some b.2[i.toNat] := List.getElem?_eq_getElem hi
    have g := get_fld eb i.toNat hi
    rw [ev] at g
    exact ⟨wd, _, _, _, rfl, rfl, SqL.of hh.wd, at_ints (j := off bs j + 4 + i.toNat) (by omega) g, k1 j b _ p eb h0 ev⟩
def spStore (A : Adr) : Sp := fun vs H Q E => ∃ (h wd bg : Addr) (c x i v : Int) (bs : List Blk), vs = [.ref h, .int x, .int i, .int v] ∧ HpAt A H h wd bg c bs ∧
  (∀ j b, Ptr bs x j → bs[j]? = some b → 0 ≤ i → i < (b.2.length : Int) → ∀ H', HpAt A H' h wd bg c (bs.set j (b.1, b.2.set i.toNat v)) → But wd H H' → Q .non H') ∧ ((∀ j b, Ptr bs x j → bs[j]? = some b → ¬ (0 ≤ i ∧ i < (b.2.length : Int))) → E (.ref A.c_NoBlock) none H)
theorem ok_store (T : Txt K mg A) : FnOk P w K mg base (L2.CX P w) 4 A.f_Heap_store_field A.d_Heap_store_field ["self", "word", "i", "value"] (spStore A) := by
  have G_Heap_place : FnOk P w K mg base (L2.CX P w) 3 A.f_Heap_place A.d_Heap_place _ _ := ok_place T
  refine T.F_Heap_store_field.okX sc_Heap_store_field (fun vs H Q E h => ?_) (fun cdv Ar outer s H vs Q E hr h => ?_)
  · obtain ⟨h, wd, bg, c, x, i, v, bs, rfl, _⟩ := h
    rfl
  · obtain ⟨h, wd, bg, c, x, i, v, bs, rfl, hh, k1, k2⟩ := h
    obtain ⟨dx, ho⟩ := hh.ob
    obtain ⟨kvs, hbg, hkl, hkv⟩ := hh.bg
    have nwb : wd ≠ bg := ne_of hh.wd hbg (by intro q; cases q)
    have nhw : h ≠ wd := ne_of ho hh.wd (by intro q; cases q)
    refine ⟨_, (pss_one (ps_asg (pv 3) (pg_sub (pe_fld (pv 0) rfl) (pe_meth (pv 0) T.cl_Heap T.t_Heap_place G_Heap_place (hr.mono (by decide)) T.b_Heap_place .nil (passes_call (takes_of rfl rfl rfl rfl) (fun _ _ _ _ h => h)) (pa_cons (pv 1) (pa_cons (pv 2) pa_nil))) set_list))), ?_⟩
    refine ⟨_, rfl, _, rfl, h, A.c_Heap, dx, _, _, rfl, ho, T.cl_Heap, T.no_Heap_words, hf_words _ _ _, _, rfl, h, dx, _, rfl, ho, hf_no _ _ _ (by decide +kernel) (by decide +kernel) (by decide +kernel), _, rfl, _, rfl, h, wd, bg, c, x, i, bs, rfl, hh, fun j b p eb h0 h1 => ?_, k2⟩
    have hi : i.toNat < b.2.length := by omega
    have hfl := flat_len eb
    refine ⟨wd, _, _, off bs j + 4 + i.toNat, rfl, rfl, hh.wd, ?_, ?_⟩
    · rw [show (off bs j : Int) + 4 + i = ((off bs j + 4 + i.toNat : Nat) : Int) by omega]
      exact ixN_nat (by rw [List.length_map]; omega)
    · refine k1 j b p eb h0 h1 _ ⟨⟨dx, by rw [upd_ne nhw]; exact ho⟩, ?_, kvs, by rw [upd_ne nwb.symm]; exact hbg, ?_, fun a => ?_⟩ But.upd
      · rw [upd_same, ← set_fld eb i.toNat hi v]
        show _ = some (HO.lst (List.map V.int _))
        rw [List.map_set]
      · rw [List.length_set]
        exact hkl
      · rw [offs_congr (lens_set eb (by simp))]
        exact hkv a
end
end K72

set_option Elab.async false
set_option maxRecDepth 100000
set_option linter.all false
set_option maxHeartbeats 40000000
namespace K72
open PySem L2 GC
section
variable {P : Program} {w : World} {K : PySem.W.Frag} {mg : Str → Option Value} {base : Heap} {A : Adr}
theorem tYes_do {σ : L2.St} {H : Hp} {f g : Hp → Prop} (h : f H) : tYes σ H (fun b H3 => if b = true then f H3 else g H3) := by
  show (if true = true then f H else g H)
  rw [if_pos rfl]
  exact h
theorem TapeAt.upd {H : Hp} {t s p : Addr} {o : HO} (T : TapeAt H t s) (h1 : p ≠ t) (h2 : p ≠ s) : TapeAt (upd H p o) t s := T.keep fun a u e q => by
  rw [upd_ne]
  · exact e
  · rcases q with q | q
    · rw [q]; exact h1.symm
    · rw [q]; exact h2.symm
theorem TapeAt.at_t {H : Hp} {t s : Addr} (T : TapeAt H t s) : ∃ o, H t = some o := let ⟨_, _, _, _, _, h, _⟩ := T; ⟨_, h⟩
theorem TapeAt.at_s {H : Hp} {t s : Addr} (T : TapeAt H t s) : ∃ o, H s = some o := let ⟨_, _, _, _, _, _, h, _⟩ := T; ⟨_, h⟩
theorem TapeAt.new {H : Hp} {t s p : Addr} {o : HO} (T : TapeAt H t s) (h : H p = none) : TapeAt (L2.upd H p o) t s :=
  let ⟨_, a⟩ := T.at_t
  let ⟨_, b⟩ := T.at_s
  T.upd (ne_of_none a h).symm (ne_of_none b h).symm
/-! ### a word that is drawn -/
def spWord : Sp := fun vs H Q _ => ∃ (t s bl : Addr) (os : List Int), vs = [.ref t, .ref bl] ∧ TapeAt H t s ∧ H bl = some (.lst (nums os)) ∧ os.length < 1000 ∧
  ∀ (x : Int) (H' : Hp), But t H H' → TapeAt H' t s → Q (.int x) H'
theorem ok__law_word (T : Txt K mg A) : FnOk P w K mg base CX0 3 A.f__law_word A.d__law_word ["tape", "blocks"] spWord := by
  have G__law_take : FnOk P w K mg base CX0 2 A.f__law_take A.d__law_take _ _ := ok__law_take T
  refine T.F__law_word.ok sc__law_word (fun vs H Q E h => ?_) (fun cdv Ar outer s H vs Q E hr h => ?_)
  · obtain ⟨t, s, bl, os, rfl, _⟩ := h
    rfl
  · obtain ⟨t, s, bl, os, rfl, hT, hb, hl, k⟩ := h
    have nbt := hT.off_ints hb
    refine ⟨_, (pss_cons (ps_set (i := 2) sc__law_word.nd rfl (Or.inl rfl) (pe_call G__law_take (hr.mono (by decide)) rfl T.g__law_take T.F__law_take.kp T.b__law_take .nil pass0 (pa_cons (pv 0) (pa_cons pe_int pa_nil)))) (Evl.pss_cut (ps_if (PW.pt (pw_and (pt_cmpR op_lt (pv 2) pe_int (nomark _)) (pw_and1 (pt_cmpR op_gt (pe_callB call_len_seq (by rfl) T.n_len PySem.boot_len (pa_cons (pv 1) pa_nil)) pe_int (nomark _))))) (pss_one (ps_ret (pe_op op_add (pe_op op_mul pe_int (pe_ix (ixl (K := K) rfl) (pv 1) (pe_call G__law_take (hr.mono (by decide)) rfl T.g__law_take T.F__law_take.kp T.b__law_take .nil pass0 (pa_cons (pv 0) (pa_cons (pe_callB call_len_seq (by rfl) T.n_len PySem.boot_len (pa_cons (pv 1) pa_nil)) pa_nil))) (fun _ _ => rfl))) pe_int))) pss_nil) (Evl.pss_cut (ps_if (pt_cmpR op_eq (pv 2) pe_int (nomark _)) (pss_one (ps_ret (pe_op op_add (pe_op op_mul pe_int (pe_op op_add (pe_op op_mul pe_int (pe_call G__law_take (hr.mono (by decide)) rfl T.g__law_take T.F__law_take.kp T.b__law_take .nil pass0 (pa_cons (pv 0) (pa_cons pe_int pa_nil)))) (pe_call G__law_take (hr.mono (by decide)) rfl T.g__law_take T.F__law_take.kp T.b__law_take .nil pass0 (pa_cons (pv 0) (pa_cons pe_int pa_nil))))) pe_int))) pss_nil) (pss_one (ps_ret (pe_ifExp (PW.pt (pw_and (pt_cmpR op_eq (pv 2) pe_int (nomark _)) (pw_and1 (pt_cmpR op_eq (pe_call G__law_take (hr.mono (by decide)) rfl T.g__law_take T.F__law_take.kp T.b__law_take .nil pass0 (pa_cons (pv 0) (pa_cons pe_int pa_nil))) pe_int (nomark _))))) pe_int (pe_op op_mul pe_int (pe_op op_sub (pe_call G__law_take (hr.mono (by decide)) rfl T.g__law_take T.F__law_take.kp T.b__law_take .nil pass0 (pa_cons (pv 0) (pa_cons pe_int pa_nil))) pe_int)))))))), ?_⟩
    refine ⟨_, rfl, t, s, 5, rfl, by decide, by decide, hT, fun r H1 hr0 hr1 hB hT1 => ?_⟩
    have hb1 : H1 bl = some (.lst (nums os)) := (hB bl nbt).trans hb
    refine ⟨fun σ' H' => σ' = [some (.ref t), some (.ref bl), some (.int r)] ∧ H' = H1, ?_, ?_⟩
    · refine ⟨_, rfl, _, _, rfl, rfl, _, rfl, ite2 (fun c => ?_) (fun c => ?_)⟩
      · refine ⟨_, rfl, bl, _, rfl, .inl (SqL.of hb1), _, _, rfl, rfl, _, rfl, ite2 (fun c2 => ?_) (fun c2 => ?_)⟩
        · have h0 : (0 : Int) < ((nums os).length : Int) := of_decide_eq_true c2
          rw [List.length_map] at h0
          refine ⟨_, rfl, _, rfl, _, rfl, bl, _, rfl, .inl (SqL.of hb1), t, s, _, rfl, by rw [List.length_map]; exact h0, by rw [List.length_map]; omega, hT1, fun r2 H2 hr2 hr3 hB2 hT2 => ?_⟩
          rw [List.length_map] at hr3
          have hk : r2.toNat < os.length := by omega
          refine ⟨bl, _, _, _, rfl, rfl, SqL.of ((hB2 bl nbt).trans hb1), at_ints (j := r2.toNat) (by omega) (List.getElem?_eq_getElem hk), _, _, rfl, rfl, .inl ⟨by decide, by decide⟩, _, _, rfl, rfl, ?_⟩
          exact k _ _ (hB.trans hB2) hT2
        · exact ⟨rfl, rfl⟩
      · exact iteF ⟨rfl, rfl⟩
    · rintro σ' H' ⟨rfl, rfl⟩
      refine ⟨fun σ' H'' => σ' = [some (.ref t), some (.ref bl), some (.int r)] ∧ H'' = H', ?_, ?_⟩
      · refine ⟨_, rfl, rfl, _, rfl, ite2 (fun c => ?_) (fun c => ?_)⟩
        · refine ⟨_, rfl, t, s, 5, rfl, by decide, by decide, hT1, fun r2 H2 hr2 hr3 hB2 hT2 => ?_⟩
          refine ⟨_, _, rfl, rfl, .inl ⟨by decide, by decide⟩, _, rfl, t, s, 12, rfl, by decide, by decide, hT2, fun r4 H3 hr4 hr5 hB3 hT3 => ?_⟩
          refine ⟨_, _, rfl, rfl, _, _, rfl, rfl, .inl ⟨by decide, by decide⟩, _, _, rfl, rfl, ?_⟩
          exact k _ _ ((hB.trans hB2).trans hB3) hT3
        · exact ⟨rfl, rfl⟩
      · rintro σ' H'' ⟨rfl, rfl⟩
        refine ⟨_, rfl, rfl, _, rfl, ite2 (fun c => ?_) (fun c => ?_)⟩
        · refine ⟨_, rfl, t, s, 2, rfl, by decide, by decide, hT1, fun r2 H2 hr2 hr3 hB2 hT2 => ⟨rfl, _, rfl, ite2 (fun c => ?_) (fun c => ?_)⟩⟩
          · exact k _ _ (hB.trans hB2) hT2
          · refine ⟨_, rfl, t, s, 100, rfl, by decide, by decide, hT2, fun r4 H3 hr4 hr5 hB3 hT3 => ⟨_, _, rfl, rfl, _, _, rfl, rfl, .inl ⟨by decide, by decide⟩, ?_⟩⟩
            exact k _ _ ((hB.trans hB2).trans hB3) hT3
        · refine iteF (A := _) ?_
          refine ⟨_, rfl, t, s, 100, rfl, by decide, by decide, hT1, fun r4 H3 hr4 hr5 hB3 hT3 => ⟨_, _, rfl, rfl, _, _, rfl, rfl, .inl ⟨by decide, by decide⟩, ?_⟩⟩
          exact k _ _ (hB.trans hB3) hT3
/-! ### what is refused -/
def spRefused (A : Adr) : Sp := fun vs H Q _ => ∃ (h wd bg : Addr) (c x i : Int) (bs : List Blk), vs = [.ref h, .int x, .int i] ∧ HpAt A H h wd bg c bs ∧ (∀ j b, Ptr bs x j → bs[j]? = some b → ¬ (0 ≤ i ∧ i < (b.2.length : Int))) ∧
  ((∀ j, ¬ Ptr bs x j) → Q (.int 3) H) ∧ (∀ j, Ptr bs x j → ∀ H', Same H H' → Q (.int 2) H')
theorem ok_refused (T : Txt K mg A) : FnOk P w K mg base CX0 5 A.f__law_refused A.d__law_refused ["heap", "word", "i"] (spRefused A) := by
  have G_Heap_header : FnOk P w K mg base (L2.CX P w) 3 A.f_Heap_header A.d_Heap_header _ _ := ok_header T
  have G_Heap_field : FnOk P w K mg base (L2.CX P w) 4 A.f_Heap_field A.d_Heap_field _ _ := ok_field T
  have G_Heap_store_field : FnOk P w K mg base (L2.CX P w) 4 A.f_Heap_store_field A.d_Heap_store_field _ _ := ok_store T
  refine T.F__law_refused.ok sc__law_refused (fun vs H Q E h => ?_) (fun cdv Ar outer s H vs Q E hr h => ?_)
  · obtain ⟨h, wd, bg, c, x, i, bs, rfl, _⟩ := h
    rfl
  · obtain ⟨h, wd, bg, c, x, i, bs, rfl, hh, hout, k1, k2⟩ := h
    obtain ⟨dx, ho⟩ := hh.ob
    refine ⟨_, (pss_cons (ps_set (i := 3) sc__law_refused.nd rfl (Or.inl rfl) pe_int) (pss_cons (ps_try_only (Wout := fun _ _ _ _ => False) rfl rfl ⟨rfl, by decide, Or.inl T.g_NoBlock⟩ takes0 (fun W pn xe tk _ => (pss_one (ps_expr (pe_methE (pv 0) T.cl_Heap T.t_Heap_header G_Heap_header (hr.mono (by decide)) T.b_Heap_header (fun σ => passAt tk σ) (pa_cons (pv 1) pa_nil))))) (fun a oe cls d pn hz hf => (pss_one (ps_aug (i := 3) sc__law_refused.nd rfl (Or.inl rfl) pe_int ip_add)))) (pss_cons (ps_try_only (Wout := fun _ _ _ _ => False) rfl rfl ⟨rfl, by decide, Or.inl T.g_NoBlock⟩ takes0 (fun W pn xe tk _ => (pss_one (ps_expr (pe_methE (pv 0) T.cl_Heap T.t_Heap_field G_Heap_field (hr.mono (by decide)) T.b_Heap_field (fun σ => passAt tk σ) (pa_cons (pv 1) (pa_cons (pv 2) pa_nil)))))) (fun a oe cls d pn hz hf => (pss_one (ps_aug (i := 3) sc__law_refused.nd rfl (Or.inl rfl) pe_int ip_add)))) (pss_cons (ps_try_as (i := 4) (Wout := fun _ _ _ _ => False) rfl rfl sc__law_refused.nd rfl rfl ⟨rfl, by decide, Or.inl T.g_NoBlock⟩ takes0 (fun W pn xe tk _ => (pss_one (ps_expr (pe_methE (pv 0) T.cl_Heap T.t_Heap_store_field G_Heap_store_field (hr.mono (by decide)) T.b_Heap_store_field (fun σ => passAt tk σ) (pa_cons (pv 1) (pa_cons (pv 2) (pa_cons pe_int pa_nil))))))) (fun a oe cls d pn hz hf => pss_when (c := cls = Value.ref A.c_NoBlock ∧ d = none) fun hc => (pss_one (ps_aug (i := 3) sc__law_refused.nd rfl (Or.inl rfl) (pe_ifExp (PW.pt (pw_and (pt_val (pe_callB (call_isE T.ec_NoBlock (zc_of hc hz) hf) (by rfl) T.n_isinstance (by decide +kernel) (pa_cons (pv 4) (pa_cons (pe_glob (v := .ref A.c_ShapewrightError) rfl T.g_ShapewrightError rfl) pa_nil))) (by intro _; rfl)) (pw_and1 (pt_not (pt_val (pe_callB (call_isE T.ec_NoBlock (zc_of hc hz) hf) (by rfl) T.n_isinstance (by decide +kernel) (pa_cons (pv 4) (pa_cons (pe_glob (v := .ref A.c_OutOfRoom) rfl T.g_OutOfRoom rfl) pa_nil))) (by intro _; rfl)))))) pe_int pe_int) ip_add)))) (pss_one (ps_ret (pv 3))))))), ?_⟩
    -- the first: two ways
    refine ⟨_, rfl, h, dx, _, rfl, ho, hf_no _ _ _ (by decide +kernel) (by decide +kernel) (by decide +kernel), _, rfl, h, wd, bg, c, x, bs, rfl, hh, fun j b p eb q H1 hs hq => ?_, fun no => ⟨true, T.em_NoBlock, fun _ a ha => ?_, fun q => nomatch q⟩⟩
    · have hh1 := hh.keep fun a o e _ => hs a o e
      obtain ⟨dx1, ho1⟩ := hh1.ob
      refine ⟨_, rfl, h, dx1, _, rfl, ho1, hf_no _ _ _ (by decide +kernel) (by decide +kernel) (by decide +kernel), _, rfl, _, rfl, h, wd, bg, c, x, i, bs, rfl, hh1, fun j' b' v' p' eb' h0 ev => ?_, fun no => ⟨true, T.em_NoBlock, fun _ a ha => ?_, fun q => nomatch q⟩⟩
      · exact absurd ⟨h0, by have := (List.getElem?_eq_some_iff.mp ev).1; omega⟩ (hout j' b' p' eb')
      · refine ⟨_, rfl, _, _, rfl, rfl, ?_⟩
        refine ⟨_, rfl, h, dx1, _, rfl, ho1, hf_no _ _ _ (by decide +kernel) (by decide +kernel) (by decide +kernel), _, rfl, _, rfl, h, wd, bg, c, x, i, 0, bs, rfl, hh1, fun j' b' p' eb' h0 h1 => absurd ⟨h0, h1⟩ (hout j' b' p' eb'), fun no => ⟨true, T.em_NoBlock, fun _ a ha => ⟨⟨rfl, rfl⟩, ?_⟩, fun q => nomatch q⟩⟩
        refine ⟨_, rfl, _, rfl, _, _, true, rfl, (fun u r => r), T.kit_NoBlock_ShapewrightError, _, rfl, ?_⟩
        refine iteT (B := _) ?_
        refine ⟨_, rfl, _, _, false, rfl, (fun u r => r), T.kit_NoBlock_OutOfRoom, _, rfl, ?_⟩
        refine iteT (B := _) ?_
        exact ⟨_, _, rfl, rfl, _, rfl, k2 j p H1 hs⟩
    · refine ⟨_, rfl, _, _, rfl, rfl, ?_⟩
      refine ⟨_, rfl, h, dx, _, rfl, ho, hf_no _ _ _ (by decide +kernel) (by decide +kernel) (by decide +kernel), _, rfl, _, rfl, h, wd, bg, c, x, i, bs, rfl, hh, fun j' b' v' p' eb' h0 ev => absurd p' (no j'), fun _ => ⟨true, T.em_NoBlock, fun _ a ha => ?_, fun q => nomatch q⟩⟩
      refine ⟨_, rfl, _, _, rfl, rfl, ?_⟩
      refine ⟨_, rfl, h, dx, _, rfl, ho, hf_no _ _ _ (by decide +kernel) (by decide +kernel) (by decide +kernel), _, rfl, _, rfl, h, wd, bg, c, x, i, 0, bs, rfl, hh, fun j' b' p' eb' h0 h1 => absurd p' (no j'), fun _ => ⟨true, T.em_NoBlock, fun _ a ha => ⟨⟨rfl, rfl⟩, ?_⟩, fun q => nomatch q⟩⟩
      refine ⟨_, rfl, _, rfl, _, _, true, rfl, (fun u r => r), T.kit_NoBlock_ShapewrightError, _, rfl, ?_⟩
      refine iteT (B := _) ?_
      refine ⟨_, rfl, _, _, false, rfl, (fun u r => r), T.kit_NoBlock_OutOfRoom, _, rfl, ?_⟩
      refine iteT (B := _) ?_
      exact ⟨_, _, rfl, rfl, _, rfl, k1 no⟩
end
end K72

set_option Elab.async false
set_option maxRecDepth 100000
set_option linter.all false
set_option maxHeartbeats 40000000
namespace K72
open PySem L2 GC
section
variable {P : Program} {w : World} {K : PySem.W.Frag} {mg : Str → Option Value} {base : Heap} {A : Adr}
/-! ### data -/
def numsD (ns : List Int) : PyData := .list (ns.map PyData.int)
def tupD (ns : List Int) : PyData := .tuple (ns.map PyData.int)
theorem numsAll_lay : ∀ ns : List Int, PyData.canLayAll0 (ns.map PyData.int) = true
  | [] => by simp [PyData.canLayAll0]
  | n :: r => by simp [PyData.canLayAll0, PyData.canLay0, numsAll_lay r]
theorem numsAll_depth : ∀ ns : List Int, PyData.depthAll (ns.map PyData.int) ≤ 2
  | [] => by simp [PyData.depthAll]
  | n :: r => by
    have := numsAll_depth r
    simp only [List.map_cons, PyData.depthAll, PyData.depth]
    omega
theorem numsD_shaped (ns : List Int) : SeqAt.shaped (numsD ns) = true := by
  have h1 := numsAll_depth ns
  have h2 : PyData.depth (numsD ns) ≤ 64 := by
    simp only [numsD, PyData.depth]
    omega
  show ((numsD ns).canLay0 && decide ((numsD ns).depth ≤ 64)) = true
  rw [Bool.and_eq_true]
  exact ⟨by simp only [numsD, PyData.canLay0]; exact numsAll_lay ns, decide_eq_true h2⟩
theorem tupD_shaped (ns : List Int) : SeqAt.shaped (tupD ns) = true := by
  have h1 := numsAll_depth ns
  have h2 : PyData.depth (tupD ns) ≤ 64 := by
    simp only [tupD, PyData.depth]
    omega
  show ((tupD ns).canLay0 && decide ((tupD ns).depth ≤ 64)) = true
  rw [Bool.and_eq_true]
  exact ⟨by simp only [tupD, PyData.canLay0]; exact numsAll_lay ns, decide_eq_true h2⟩
theorem numsAll_eqv : ∀ a b : List Int, PyData.eqvAll (a.map PyData.int) (b.map PyData.int) = decide (a = b)
  | [], [] => by simp [PyData.eqvAll]
  | [], _ :: _ => by simp [PyData.eqvAll]
  | _ :: _, [] => by simp [PyData.eqvAll]
  | x :: a, y :: b => by
    simp only [List.map_cons, PyData.eqvAll, PyData.eqv, numsAll_eqv a b, List.cons.injEq]
    by_cases h : x = y <;> simp [h]
theorem numsD_eqv (a b : List Int) : PyData.eqv (numsD a) (numsD b) = decide (a = b) := by
  simp only [numsD, PyData.eqv]
  exact numsAll_eqv a b
theorem tupD_eqv (a b : List Int) : PyData.eqv (tupD a) (tupD b) = decide (a = b) := by
  simp only [tupD, PyData.eqv]
  exact numsAll_eqv a b
theorem dpAll_nums {H : Hp} : ∀ ns : List Int, DpAll K H (nums ns) (ns.map PyData.int)
  | [] => .nil
  | n :: r => .cons (.int n) (dpAll_nums r)
theorem dp_nums {H : Hp} {a : Addr} {ns : List Int} (h : SqL K H a (nums ns)) : Dp K H (.ref a) (numsD ns) := .lst h (dpAll_nums ns)
theorem dp_tup {H : Hp} {a : Addr} {ns : List Int} (h : SqT K H a (nums ns)) : Dp K H (.ref a) (tupD ns) := .tup h (dpAll_nums ns)
/-! ### the law's state -/
structure St (A : Adr) (H : Hp) (t s h wd bg md bl : Addr) (c : Int) (bs : List Blk) : Prop where
  tape : TapeAt H t s
  heap : HpAt A H h wd bg c bs
  md : H md = some (.lst (nums (flat bs)))
  bl : H bl = some (.lst (nums (offs bs)))
/-- which stand apart -/
structure Apart (t s h wd bg md bl : Addr) : Prop where
  mw : md ≠ wd
  bw : bl ≠ wd
  bm : bl ≠ md
  sw : s ≠ wd
  sm : s ≠ md
  sb : s ≠ bl
theorem St.no {H : Hp} {t s h wd bg md bl : Addr} {c : Int} {bs : List Blk} (q : St A H t s h wd bg md bl c bs) : wd ≠ t ∧ md ≠ t ∧ bl ≠ t ∧ h ≠ t ∧ bg ≠ t ∧ h ≠ wd ∧ h ≠ md ∧ h ≠ bl ∧ bg ≠ wd ∧ bg ≠ md ∧ bg ≠ bl ∧ h ≠ bg ∧ h ≠ s ∧ bg ≠ s := by
  obtain ⟨dx, ho⟩ := q.heap.ob
  obtain ⟨kvs, hb, _⟩ := q.heap.bg
  obtain ⟨ns, p, d, m, b, h1, h2, _⟩ := q.tape
  exact ⟨lst_ne q.heap.wd h1, lst_ne q.md h1, lst_ne q.bl h1, ne_of ho h1 (by intro z; cases z), ne_of hb h1 (by intro z; cases z), ne_of ho q.heap.wd (by intro z; cases z), ne_of ho q.md (by intro z; cases z), ne_of ho q.bl (by intro z; cases z),
    ne_of hb q.heap.wd (by intro z; cases z), ne_of hb q.md (by intro z; cases z), ne_of hb q.bl (by intro z; cases z), ne_of ho hb (by intro z; cases z), ne_of ho h2 (by intro z; cases z), ne_of hb h2 (by intro z; cases z)⟩
/-- what stood, but for the five -/
def Kp5 (t wd bg md bl : Addr) (H H' : Hp) : Prop := ∀ a o, a ≠ t → a ≠ wd → a ≠ bg → a ≠ md → a ≠ bl → H a = some o → H' a = some o
theorem nums_len (ns : List Int) : (nums ns).length = ns.length := List.length_map _
theorem flat_len_add (bs : List Blk) (b : Blk) : (flat (bs ++ [b])).length = (flat bs).length + 4 + b.2.length := by
  rw [flat_append, flat_one, List.length_append, one_len]
  omega
def spMk (A : Adr) : Sp := fun vs H Q _ => ∃ (t s h wd bg md bl : Addr) (c : Int) (bs : List Blk), vs = [.ref t, .ref h, .ref md, .ref bl, .int c] ∧ St A H t s h wd bg md bl c bs ∧ Apart t s h wd bg md bl ∧ bs.length ≤ 20 ∧ (flat bs).length ≤ 200 ∧
  ∀ (bs' : List Blk) (H' : Hp), St A H' t s h wd bg md bl c bs' → bs'.length ≤ bs.length + 1 → (flat bs').length ≤ (flat bs).length + 8 → Kp5 t wd bg md bl H H' → Q (.bl true) H'
theorem ok_lmake (T : Txt K mg A) : FnOk P w K mg base CX0 5 A.f__law_make A.d__law_make ["tape", "heap", "model", "blocks", "cells"] (spMk A) := by
  have G__law_take : FnOk P w K mg base CX0 2 A.f__law_take A.d__law_take _ _ := ok__law_take T
  have G__law_word : FnOk P w K mg base CX0 3 A.f__law_word A.d__law_word _ _ := ok__law_word T
  have G_Heap_fits : FnOk P w K mg base CX0 1 A.f_Heap_fits A.d_Heap_fits _ _ := ok_fits T
  have G_Heap_make : FnOk P w K mg base (L2.CX P w) 2 A.f_Heap_make A.d_Heap_make _ _ := ok_make T
  have G_Heap_field : FnOk P w K mg base (L2.CX P w) 4 A.f_Heap_field A.d_Heap_field _ _ := ok_field T
  refine T.F__law_make.ok sc__law_make (fun vs H Q E h => ?_) (fun cdv Ar outer s H vs Q E hr h => ?_)
  · obtain ⟨t, s, h, wd, bg, md, bl, c, bs, rfl, _⟩ := h
    rfl
  · obtain ⟨t, s, h, wd, bg, md, bl, c, bs, rfl, q, ap, hb1, hb2, k⟩ := h
    obtain ⟨nwt, nmt, nbt, nht, ngt, nhw, nhm, nhb, ngw, ngm, ngb, nhg, nhs, ngs⟩ := q.no
    refine ⟨_, (pss_cons (ps_setLc (i := 5) (own := [("k", 14)]) (g := gName 14) (tt := tYes) rfl sc__law_make.nd rfl rfl (sw_true rfl rfl rfl (by decide +kernel)) (pi_range1 rfl T.n_range (pa_cons (pe_call G__law_take (hr.mono (by decide)) rfl T.g__law_take T.F__law_take.kp T.b__law_take .nil pass0 (pa_cons (pv 0) (pa_cons pe_int pa_nil))) pa_nil)) (blkOk_by (N := N__law_make) (sc := defScope s__law_make) (by decide +kernel)) (fun _ _ _ _ _ => (pg_name (i := 14) sc__law_make.nd rfl (Or.inl rfl))) (fun _ _ _ _ _ => pts_nil) (fun _ _ _ _ _ => (pe_call G__law_word (hr.mono (by decide)) rfl T.g__law_word T.F__law_word.kp T.b__law_word .nil pass0 (pa_cons (pv 0) (pa_cons (pv 3) pa_nil))))) (pss_cons (ps_set (i := 6) sc__law_make.nd rfl (Or.inl rfl) (pe_callTy call_list_of (by rfl) T.n_list (by decide +kernel) (pa_cons (pv 5) pa_nil))) (pss_cons (ps_set (i := 7) sc__law_make.nd rfl (Or.inl rfl) (pe_cmpR op_le (pe_op op_add (pe_op op_add (pe_callB call_len_seq (by rfl) T.n_len PySem.boot_len (pa_cons (pv 2) pa_nil)) pe_int) (pe_callB call_len_seq (by rfl) T.n_len PySem.boot_len (pa_cons (pv 5) pa_nil))) (pv 4) (nomark _))) (pss_cons (ps_set (i := 8) sc__law_make.nd rfl (Or.inl rfl) (pe_meth (pv 1) T.cl_Heap T.t_Heap_fits G_Heap_fits (hr.mono (by decide)) T.b_Heap_fits .nil pass0 (pa_cons (pe_callB call_len_seq (by rfl) T.n_len PySem.boot_len (pa_cons (pv 5) pa_nil)) pa_nil))) (pss_cons (ps_if (PW.pt (pw_or (pt_not (pt_val (pe_callB call_isi (by rfl) T.n_isinstance (by decide +kernel) (pa_cons (pv 8) (pa_cons (pe_bltn (v := .ty "bool") (by rfl) T.n_bool (by decide +kernel) rfl) pa_nil))) (by intro _; rfl))) (pw_or1 (pt_cmpR op_ne (pv 8) (pv 7) (nomark _))))) (pss_one (ps_ret pe_bl)) pss_nil) (pss_cons (ps_set (i := 9) sc__law_make.nd rfl (Or.inl rfl) (pe_call G__law_take (hr.mono (by decide)) rfl T.g__law_take T.F__law_take.kp T.b__law_take .nil pass0 (pa_cons (pv 0) (pa_cons pe_int pa_nil)))) (pss_cons (ps_set (i := 10) sc__law_make.nd rfl (Or.inl rfl) (pe_call G__law_take (hr.mono (by decide)) rfl T.g__law_take T.F__law_take.kp T.b__law_take .nil pass0 (pa_cons (pv 0) (pa_cons pe_int pa_nil)))) (pss_cons (ps_set (i := 11) sc__law_make.nd rfl (Or.inl rfl) (pe_call G__law_take (hr.mono (by decide)) rfl T.g__law_take T.F__law_take.kp T.b__law_take .nil pass0 (pa_cons (pv 0) (pa_cons pe_int pa_nil)))) (pss_cons (ps_try_as (i := 13) (Wout := fun _ _ _ _ => False) rfl rfl sc__law_make.nd rfl rfl ⟨rfl, by decide, Or.inl T.g_OutOfRoom⟩ takes0 (fun W pn xe tk _ => (pss_one (ps_set (i := 12) sc__law_make.nd rfl (Or.inl rfl) (pe_methE (pv 1) T.cl_Heap T.t_Heap_make G_Heap_make (hr.mono (by decide)) T.b_Heap_make (fun σ => passAt tk σ) (pa_cons (pv 9) (pa_cons (pv 10) (pa_cons (pv 11) (pa_cons (pv 5) pa_nil)))))))) (fun a oe cls d pn hz hf => pss_when (c := cls = Value.ref A.c_OutOfRoom ∧ d = none) fun hc => (pss_one (ps_ret (pe_and (pe_not (pv 7)) (pe_and (pe_callB (call_isE T.ec_OutOfRoom (zc_of hc hz) hf) (by rfl) T.n_isinstance (by decide +kernel) (pa_cons (pv 13) (pa_cons (pe_glob (v := .ref A.c_ShapewrightError) rfl T.g_ShapewrightError rfl) pa_nil))) (pe_one (pe_not (pe_callB (call_isE T.ec_OutOfRoom (zc_of hc hz) hf) (by rfl) T.n_isinstance (by decide +kernel) (pa_cons (pv 13) (pa_cons (pe_glob (v := .ref A.c_NoBlock) rfl T.g_NoBlock rfl) pa_nil))))))))))) (pss_cons (ps_if (PW.pt (pw_or (pt_not (pt_val (pv 7) (by intro _; rfl))) (pw_or (pt_cmpR (op_neD hr.units) (pv 5) (pv 6) (nomark _)) (pw_or1 (pt_cmpR op_ne (pv 12) (pe_op op_add (pe_op op_mul pe_int (pe_callB call_len_seq (by rfl) T.n_len PySem.boot_len (pa_cons (pv 2) pa_nil))) pe_int) (nomark _)))))) (pss_one (ps_ret pe_bl)) pss_nil) (Evl.pss_cut (ps_if (pt_cmpR op_gt (pe_callB call_len_seq (by rfl) T.n_len PySem.boot_len (pa_cons (pv 5) pa_nil)) pe_int (nomark _)) (pss_cons (ps_asg (pe_un un_neg pe_int) (pg_sub (pv 5) pe_int set_list)) (pss_one (ps_if (pt_cmpR op_ne (pe_meth (pv 1) T.cl_Heap T.t_Heap_field G_Heap_field (hr.mono (by decide)) T.b_Heap_field .nil passL (pa_cons (pv 12) (pa_cons pe_int pa_nil))) (pe_ix (ixl (K := K) rfl) (pv 6) pe_int (fun _ _ => rfl)) (nomark _)) (pss_one (ps_ret pe_bl)) pss_nil))) pss_nil) (pss_cons (ps_expr (pe_bm PySem.F.plainAttrs_list PySem.F.slot_list_append PySem.F.type_list_append mt_append (pv 3) (pa_cons (pe_callB call_len_seq (by rfl) T.n_len PySem.boot_len (pa_cons (pv 2) pa_nil)) pa_nil))) (pss_cons (ps_expr (pe_bm PySem.F.plainAttrs_list PySem.F.slot_list_extend PySem.F.type_list_extend mt_extend (pv 2) (pa_cons (pe_lst (pa_cons (pv 9) (pa_cons (pv 10) (pa_cons (pv 11) (pa_cons (pe_callB call_len_seq (by rfl) T.n_len PySem.boot_len (pa_cons (pv 6) pa_nil)) pa_nil))))) pa_nil))) (pss_cons (ps_expr (pe_bm PySem.F.plainAttrs_list PySem.F.slot_list_extend PySem.F.type_list_extend mt_extend (pv 2) (pa_cons (pv 6) pa_nil))) (pss_one (ps_ret pe_bl)))))))))))))))), ?_⟩
    -- fields
    refine ⟨_, rfl, t, s, 5, rfl, by decide, by decide, q.tape, fun r H1 hr0 hr1 hB1 hT1 => ⟨r, rfl, by omega, by omega, fun D hD => ?_⟩⟩
    obtain ⟨ot, et⟩ := hT1.at_t
    obtain ⟨os, es⟩ := hT1.at_s
    have nDt : D ≠ t := (ne_of_none et hD).symm
    have nDs : D ≠ s := (ne_of_none es hD).symm
    have hD0 : H D = none := by rw [← hB1 D nDt]; exact hD
    refine lc_range (lo := 0) (n := r.toNat) (fun i H' => ∃ fs : List Int, fs.length = i ∧ H' D = some (.lst (nums fs)) ∧ TapeAt H' t s ∧ (∀ a o, a ≠ t → H a = some o → H' a = some o)) ?_ ?_ ?_
    · exact ⟨[], rfl, upd_same, hT1.upd nDt nDs, fun a o n e => by rw [upd_ne (ne_of_none e hD0), hB1 a n]; exact e⟩
    · rintro i H2 hi ⟨fs, hfl, hD2, hT2, hk2⟩
      refine ⟨rfl, tYes_do ?_⟩
      refine ⟨_, rfl, _, rfl, t, s, bl, offs bs, rfl, hT2, hk2 _ _ nbt q.bl, by rw [offs_len]; omega, fun x H3 hB3 hT3 => ?_⟩
      refine ⟨_, (hB3 _ nDt).trans hD2, small_lt (by rw [nums_len]; omega), fs ++ [x], by simp [hfl], ?_, hT3.upd nDt nDs, fun a o n e => ?_⟩
      · rw [upd_same, nums_app]
        rfl
      · rw [upd_ne (ne_of_none e hD0), hB3 a n]
        exact hk2 a o n e
    · rintro H2 ⟨fs, hfl, hD2, hT2, hk2⟩
      have hfl4 : fs.length ≤ 4 := by omega
      -- kept
      refine ⟨_, rfl, D, _, rfl, .inl (SqL.of hD2), fun Kd hKd => ?_⟩
      have nDK : D ≠ Kd := ne_of_none hD2 hKd
      obtain ⟨ot2, et2⟩ := hT2.at_t
      obtain ⟨os2, es2⟩ := hT2.at_s
      have nKt : Kd ≠ t := (ne_of_none et2 hKd).symm
      have nKs : Kd ≠ s := (ne_of_none es2 hKd).symm
      have hK0 : H Kd = none := by
        cases e : H Kd with
        | none => rfl
        | some o =>
          rw [hk2 _ _ nKt e] at hKd
          cases hKd
      have hD3 : (upd H2 Kd (.lst (nums fs))) D = some (.lst (nums fs)) := by rw [upd_ne nDK]; exact hD2
      have hK3 : (upd H2 Kd (.lst (nums fs))) Kd = some (.lst (nums fs)) := upd_same
      have hT3 : TapeAt (upd H2 Kd (.lst (nums fs))) t s := hT2.upd nKt nKs
      have hk3 : ∀ a o, a ≠ t → H a = some o → (upd H2 Kd (.lst (nums fs))) a = some o := fun a o n e => by
        rw [upd_ne (ne_of_none e hK0)]
        exact hk2 a o n e
      generalize (upd H2 Kd (.lst (nums fs))) = H3 at hD3 hK3 hT3 hk3 ⊢
      have hp3 : HpAt A H3 h wd bg c bs := q.heap.keep fun a o e z => hk3 a o (by rcases z with z | z | z <;> subst z <;> assumption) e
      have hm3 := hk3 _ _ nmt q.md
      have hb3 := hk3 _ _ nbt q.bl
      obtain ⟨dx3, ho3⟩ := hp3.ob
      -- enough, told
      refine ⟨_, rfl, md, _, rfl, .inl (SqL.of hm3), _, _, rfl, rfl, _, rfl, D, _, rfl, .inl (SqL.of hD3), _, _, rfl, rfl, _, rfl, _, _, rfl, rfl, ?_⟩
      refine ⟨_, rfl, h, dx3, _, rfl, ho3, hf_no _ _ _ (by decide +kernel) (by decide +kernel) (by decide +kernel), _, rfl, D, _, rfl, .inl (SqL.of hD3), h, wd, bg, c, _, bs, rfl, hp3, ?_⟩
      refine ⟨_, rfl, _, _, _, _, true, rfl, .ty _, .base (.bl _), kit_ty (by decide +kernel), _, rfl, ?_⟩
      refine iteF (A := _) ?_
      refine ⟨_, rfl, _, rfl, rfl, _, rfl, ?_⟩
      have hen : (V.bl (decide (((flat bs).length : Int) + 4 + ((nums fs).length : Int) ≤ c))) = V.bl (decide (((nums (flat bs)).length : Int) + 4 + ((nums fs).length : Int) ≤ c)) := by rw [nums_len (flat bs)]
      rw [decide_eq_true hen]
      refine iteF (A := _) ?_
      -- kind, a, b
      refine ⟨_, rfl, t, s, 7, rfl, by decide, by decide, hT3, fun x H4 _ _ hB4 hT4 => ⟨_, rfl, t, s, 9, rfl, by decide, by decide, hT4, fun y H5 _ _ hB5 hT5 => ⟨_, rfl, t, s, 12, rfl, by decide, by decide, hT5, fun z H6 _ _ hB6 hT6 => ?_⟩⟩⟩
      have nDt' := nDt
      have hB46 : But t H3 H6 := (hB4.trans hB5).trans hB6
      have hD6 : H6 D = some (.lst (nums fs)) := (hB46 _ nDt).trans hD3
      have hK6 : H6 Kd = some (.lst (nums fs)) := (hB46 _ nKt).trans hK3
      have hp6 : HpAt A H6 h wd bg c bs := hp3.keep fun a o e z => (hB46 a (by rcases z with z | z | z <;> subst z <;> assumption)).trans e
      have hm6 : H6 md = some (.lst (nums (flat bs))) := (hB46 _ nmt).trans hm3
      have hb6 : H6 bl = some (.lst (nums (offs bs))) := (hB46 _ nbt).trans hb3
      have hk6 : ∀ a o, a ≠ t → H a = some o → H6 a = some o := fun a o n e => (hB46 a n).trans (hk3 a o n e)
      obtain ⟨dx6, ho6⟩ := hp6.ob
      have nDw : D ≠ wd := (ne_of_none q.heap.wd hD0).symm
      have nDm : D ≠ md := (ne_of_none q.md hD0).symm
      have nDb : D ≠ bl := (ne_of_none q.bl hD0).symm
      have nKw : Kd ≠ wd := (ne_of_none q.heap.wd hK0).symm
      have nKm : Kd ≠ md := (ne_of_none q.md hK0).symm
      have nKb : Kd ≠ bl := (ne_of_none q.bl hK0).symm
      obtain ⟨kv0, eg0, _⟩ := q.heap.bg
      have nDg : D ≠ bg := (ne_of_none eg0 hD0).symm
      have nKg : Kd ≠ bg := (ne_of_none eg0 hK0).symm
      obtain ⟨oh0, eh0⟩ := q.heap.ob
      have nDh : D ≠ h := (ne_of_none eh0 hD0).symm
      have nKh : Kd ≠ h := (ne_of_none eh0 hK0).symm
      -- heap.make
      refine ⟨_, rfl, h, dx6, _, rfl, ho6, hf_no _ _ _ (by decide +kernel) (by decide +kernel) (by decide +kernel), _, rfl, _, rfl, _, rfl, _, rfl, h, wd, bg, D, c, x, y, z, bs, fs, rfl, hp6, hD6, nDw, by omega, by omega, by omega, fun hc H7 hp7 hk7 => ?_, fun hc => ⟨true, T.em_OutOfRoom, fun _ a ha => ⟨⟨rfl, rfl⟩, ?_⟩, fun q => nomatch q⟩⟩
      · have hen2 : decide (((nums (flat bs)).length : Int) + 4 + ((nums fs).length : Int) ≤ c) = true := decide_eq_true (by rw [nums_len, nums_len]; exact hc)
        have hD7 := hk7 _ _ nDw nDg hD6
        have hK7 := hk7 _ _ nKw nKg hK6
        have hm7 := hk7 _ _ ap.mw ngm.symm hm6
        have hb7 := hk7 _ _ ap.bw ngb.symm hb6
        refine ⟨_, rfl, _, rfl, ?_⟩
        rw [hen2]
        refine iteF (A := _) ?_
        refine ⟨_, rfl, _, rfl, numsD fs, numsD fs, dp_nums (SqL.of hD7), dp_nums (SqL.of hK7), numsD_shaped _, numsD_shaped _, _, rfl, ?_⟩
        rw [numsD_eqv, decide_eq_true rfl]
        refine iteF (A := _) ?_
        refine ⟨_, rfl, _, rfl, md, _, rfl, .inl (SqL.of hm7), _, _, rfl, rfl, .inl ⟨by decide, by decide⟩, _, _, rfl, rfl, rfl, _, rfl, ?_⟩
        rw [nums_len, decide_eq_true rfl]
        refine iteF (A := _) ?_
        have hk7' : ∀ a o, a ≠ t → a ≠ wd → a ≠ bg → H a = some o → H7 a = some o := fun a o n1 n2 n3 e => hk7 a o n2 n3 (hk6 a o n1 e)
        have hT7 : TapeAt H7 t s := hT6.keep fun a o e z => hk7 a o (by rcases z with z | z <;> subst z <;> first | exact nwt.symm | exact ap.sw) (by rcases z with z | z <;> subst z <;> first | exact ngt.symm | exact ngs.symm) e
        -- if len(fields) > 0
        refine ⟨fun σ' H' => σ' = [some (.ref t), some (.ref h), some (.ref md), some (.ref bl), some (.int c), some (.ref D), some (.ref Kd), some (.bl (decide (((flat bs).length : Int) + 4 + ((nums fs).length : Int) ≤ c))), some (.bl (decide (((flat bs).length : Int) + 4 + ((nums fs).length : Int) ≤ c))), some (.int x), some (.int y), some (.int z), some (.int (4 * ((flat bs).length : Int) + 1)), none, none] ∧
          HpAt A H' h wd bg c (bs ++ [((x, y, z), fs)]) ∧ H' md = some (.lst (nums (flat bs))) ∧ H' bl = some (.lst (nums (offs bs))) ∧ H' Kd = some (.lst (nums fs)) ∧ TapeAt H' t s ∧ (∀ a o, a ≠ t → a ≠ wd → a ≠ bg → H a = some o → H' a = some o), ?_, ?_⟩
        · refine ⟨_, rfl, D, _, rfl, .inl (SqL.of hD7), _, _, rfl, rfl, _, rfl, ite2 (fun c1 => ?_) (fun c1 => ?_)⟩
          · have hpos : (0 : Int) < ((nums fs).length : Int) := of_decide_eq_true c1
            rw [nums_len] at hpos
            refine ⟨_, rfl, _, rfl, D, _, _, 0, rfl, rfl, hD7, ixN_nat (n := (nums fs).length) (j := 0) (by rw [nums_len]; omega), ?_⟩
            have hp8 : HpAt A (upd H7 D (.lst ((nums fs).set 0 (.int (-4))))) h wd bg c (bs ++ [((x, y, z), fs)]) := hp7.keep fun a o e z => by
              rw [upd_ne (by rcases z with z | z | z <;> subst z <;> first | exact nDh.symm | exact nDw.symm | exact nDg.symm)]
              exact e
            obtain ⟨dx8, ho8⟩ := hp8.ob
            have hK8 : (upd H7 D (.lst ((nums fs).set 0 (.int (-4))))) Kd = some (.lst (nums fs)) := by rw [upd_ne nDK.symm]; exact hK7
            have enew : (bs ++ [((x, y, z), fs)])[bs.length]? = some ((x, y, z), fs) := by
              rw [List.getElem?_append_right (Nat.le_refl _), Nat.sub_self]
              rfl
            have pnew : Ptr (bs ++ [((x, y, z), fs)]) (4 * ((flat bs).length : Int) + 1) bs.length := ⟨by simp, by rw [off_app (Nat.le_refl _), off_len]⟩
            have hfs0 : fs[0]? = some fs[0] := List.getElem?_eq_getElem (by omega)
            refine ⟨_, rfl, h, dx8, _, rfl, ho8, hf_no _ _ _ (by decide +kernel) (by decide +kernel) (by decide +kernel), _, rfl, h, wd, bg, c, _, 0, _, rfl, hp8, fun j b v p eb h0 ev => ?_, fun no => (no _ _ pnew enew ⟨Int.le_refl 0, by show (0 : Int) < (fs.length : Int); omega⟩).elim⟩
            have ej := p.inj pnew
            subst ej
            rw [enew] at eb
            cases eb
            have ev' : fs[0]? = some v := ev
            rw [hfs0] at ev'
            cases ev'
            refine ⟨_, rfl, Kd, _, _, _, rfl, rfl, SqL.of hK8, at_ints (j := 0) rfl hfs0, rfl, _, rfl, ?_⟩
            refine iteNS (A := _) rfl ?_
            refine ⟨rfl, hp8, ?_, ?_, hK8, hT7.upd nDt nDs, fun a o n1 n2 n3 e => ?_⟩
            · rw [upd_ne nDm.symm]; exact hm7
            · rw [upd_ne nDb.symm]; exact hb7
            · rw [upd_ne (ne_of_none e hD0)]
              exact hk7' a o n1 n2 n3 e
          · exact ⟨rfl, hp7, hm7, hb7, hK7, hT7, hk7'⟩
        · rintro σ' H8 ⟨rfl, hp8, hm8, hb8, hK8, hT8, hk8⟩
          -- blocks.append(len(model))
          refine ⟨_, rfl, .inl ⟨rfl, _, SqL.of hb8⟩, _, rfl, md, _, rfl, .inl (SqL.of hm8), bl, _, _, rfl, rfl, hb8, small_lt (by rw [nums_len, offs_len]; omega), ?_⟩
          have hm9 : ∀ o : HO, (upd H8 bl o) md = some (.lst (nums (flat bs))) := fun o => by rw [upd_ne ap.bm.symm]; exact hm8
          have hK9 : ∀ o : HO, (upd H8 bl o) Kd = some (.lst (nums fs)) := fun o => by rw [upd_ne nKb]; exact hK8
          -- model.extend([..])
          refine ⟨_, rfl, .inl ⟨rfl, _, SqL.of (hm9 _)⟩, _, rfl, _, rfl, _, rfl, _, rfl, Kd, _, rfl, .inl (SqL.of (hK9 _)), (show 4 ≤ sizeLine by decide), fun p hp => ?_⟩
          have nmp : md ≠ p := ne_of_none (hm9 _) hp
          have nKp : Kd ≠ p := ne_of_none (hK9 _) hp
          have nbp : bl ≠ p := ne_of_none upd_same hp
          refine ⟨md, p, _, _, rfl, rfl, Eq.trans (upd_ne nmp) (hm9 _), upd_same, small_len (by simp only [List.length_map, List.length_cons, List.length_nil]; omega), ?_⟩
          refine ⟨_, rfl, .inl ⟨rfl, _, SqL.of upd_same⟩, _, rfl, md, Kd, _, _, rfl, rfl, upd_same, Eq.trans (upd_ne nKm) (Eq.trans (upd_ne nKp) (hK9 _)), small_len (by simp only [List.length_map, List.length_append, List.length_cons, List.length_nil]; omega), ?_⟩
          rw [upd_upd]
          have hp8n : H8 p = none := by rw [upd_ne nbp.symm] at hp; exact hp
          refine k (bs ++ [((x, y, z), fs)]) _ ⟨?_, ?_, ?_, ?_⟩ (by simp) (by rw [flat_len_add]; show (flat bs).length + 4 + fs.length ≤ _; omega) (fun a o n1 n2 n3 n4 n5 e => ?_)
          · exact ((hT8.upd nbt (fun z => ap.sb z.symm)).new hp).upd nmt (fun z => ap.sm z.symm)
          · refine hp8.keep fun a o e z => ?_
            have na1 : a ≠ md := by rcases z with z | z | z <;> subst z <;> first | exact nhm | exact ap.mw.symm | exact ngm
            have na2 : a ≠ bl := by rcases z with z | z | z <;> subst z <;> first | exact nhb | exact ap.bw.symm | exact ngb
            rw [upd_ne na1, upd_ne (ne_of_none e hp8n), upd_ne na2]
            exact e
          · rw [upd_same, nums_len, flat_append, flat_one, nums_app]
            show some (HO.lst ((nums (flat bs) ++ [V.int x, V.int y, V.int z, V.int (fs.length : Int)]) ++ nums fs)) = some (HO.lst (nums (flat bs) ++ ([V.int x, V.int y, V.int z, V.int (fs.length : Int)] ++ nums fs)))
            rw [List.append_assoc]
          · rw [upd_ne ap.bm, upd_ne nbp, upd_same, offs_add, nums_app, nums_len]
            rfl
          · have e8 := hk8 a o n1 n2 n3 e
            rw [upd_ne n4, upd_ne (ne_of_none e8 hp8n), upd_ne n5]
            exact e8
      · -- refused
        have hen2 : decide (((nums (flat bs)).length : Int) + 4 + ((nums fs).length : Int) ≤ c) = false := decide_eq_false (by rw [nums_len, nums_len]; exact hc)
        refine ⟨_, rfl, _, rfl, _, rfl, ?_⟩
        rw [hen2]
        refine iteT (B := _) ?_
        refine ⟨_, rfl, _, _, true, rfl, (fun u r => r), T.kit_OutOfRoom_ShapewrightError, _, rfl, ?_⟩
        refine iteT (B := _) ?_
        refine ⟨_, rfl, _, _, false, rfl, (fun u r => r), T.kit_OutOfRoom_NoBlock, _, rfl, ?_⟩
        exact k bs H6 ⟨hT6, hp6, hm6, hb6⟩ (by omega) (by omega) fun a o n1 _ _ _ _ e => hk6 a o n1 e
end
end K72

set_option Elab.async false
set_option maxRecDepth 100000
set_option linter.all false
set_option maxHeartbeats 40000000
namespace K72
open PySem L2 GC
section
variable {P : Program} {w : World} {K : PySem.W.Frag} {mg : Str → Option Value} {base : Heap} {A : Adr}
theorem bad_no {bs : List Blk} {j0 : Nat} (h : j0 < bs.length) {r : Int} (h0 : 0 ≤ r) (h1 : r < 6) :
    ∃ x, [4 * (off bs j0 : Int), 4 * (off bs j0 : Int) + 2, 3, 4 * ((off bs j0 : Int) + 1) + 1, 4 * ((nums (flat bs)).length : Int) + 1, -3][r.toNat]? = some x ∧ ∀ j, ¬ Ptr bs x j := by
  have hn : r.toNat = 0 ∨ r.toNat = 1 ∨ r.toNat = 2 ∨ r.toNat = 3 ∨ r.toNat = 4 ∨ r.toNat = 5 := by omega
  rcases hn with e | e | e | e | e | e <;> rw [e]
  · exact ⟨_, rfl, fun j p => by have := p.2; omega⟩
  · exact ⟨_, rfl, fun j p => by have := p.2; omega⟩
  · exact ⟨_, rfl, fun j p => by have := p.2; omega⟩
  · refine ⟨_, rfl, fun j p => ?_⟩
    have h2 := p.2
    rcases Nat.lt_trichotomy j j0 with q | q | q
    · have := off_lt q p.1; omega
    · subst q; omega
    · have := off_lt q h; omega
  · refine ⟨_, rfl, fun j p => ?_⟩
    have h2 := p.2
    rw [nums_len] at h2
    have := flat_len (List.getElem?_eq_getElem p.1)
    omega
  · exact ⟨_, rfl, fun j p => by have := p.2; omega⟩
def spLook (A : Adr) : Sp := fun vs H Q _ => ∃ (t s h wd bg md bl : Addr) (c : Int) (bs : List Blk), vs = [.ref t, .ref h, .ref md, .ref bl] ∧ St A H t s h wd bg md bl c bs ∧ Apart t s h wd bg md bl ∧ bs.length ≤ 20 ∧ (flat bs).length ≤ 200 ∧
  ∀ (bs' : List Blk) (H' : Hp), St A H' t s h wd bg md bl c bs' → bs'.length ≤ bs.length + 1 → (flat bs').length ≤ (flat bs).length + 8 → Kp5 t wd bg md bl H H' → Q (.bl true) H'
theorem ok_llook (T : Txt K mg A) : FnOk P w K mg base CX0 6 A.f__law_look A.d__law_look ["tape", "heap", "model", "blocks"] (spLook A) := by
  have G__law_take : FnOk P w K mg base CX0 2 A.f__law_take A.d__law_take _ _ := ok__law_take T
  have G__law_word : FnOk P w K mg base CX0 3 A.f__law_word A.d__law_word _ _ := ok__law_word T
  have G__law_refused : FnOk P w K mg base CX0 5 A.f__law_refused A.d__law_refused _ _ := ok_refused T
  have G_Heap_header : FnOk P w K mg base (L2.CX P w) 3 A.f_Heap_header A.d_Heap_header _ _ := ok_header T
  have G_Heap_field : FnOk P w K mg base (L2.CX P w) 4 A.f_Heap_field A.d_Heap_field _ _ := ok_field T
  have G_Heap_store_field : FnOk P w K mg base (L2.CX P w) 4 A.f_Heap_store_field A.d_Heap_store_field _ _ := ok_store T
  refine T.F__law_look.ok sc__law_look (fun vs H Q E h => ?_) (fun cdv Ar outer s H vs Q E hr h => ?_)
  · obtain ⟨t, s, h, wd, bg, md, bl, c, bs, rfl, _⟩ := h
    rfl
  · obtain ⟨t, s, h, wd, bg, md, bl, c, bs, rfl, q, ap, hb1, hb2, k⟩ := h
    obtain ⟨nwt, nmt, nbt, nht, ngt, nhw, nhm, nhb, ngw, ngm, ngb, nhg, nhs, ngs⟩ := q.no
    have hol := offs_len bs
    refine ⟨_, (pss_cons (ps_if (pt_cmpR op_eq (pe_callB call_len_seq (by rfl) T.n_len PySem.boot_len (pa_cons (pv 3) pa_nil)) pe_int (nomark _)) (pss_one (ps_ret (pe_and (pe_cmpR op_eq (pe_call G__law_refused (hr.mono (by decide)) rfl T.g__law_refused T.F__law_refused.kp T.b__law_refused .nil pass0 (pa_cons (pv 1) (pa_cons pe_int (pa_cons pe_int pa_nil)))) pe_int (nomark _)) (pe_one (pe_cmpR op_eq (pe_call G__law_refused (hr.mono (by decide)) rfl T.g__law_refused T.F__law_refused.kp T.b__law_refused .nil pass0 (pa_cons (pv 1) (pa_cons pe_int (pa_cons pe_int pa_nil)))) pe_int (nomark _)))))) pss_nil) (pss_cons (ps_set (i := 4) sc__law_look.nd rfl (Or.inl rfl) (pe_ix (ixl (K := K) rfl) (pv 3) (pe_call G__law_take (hr.mono (by decide)) rfl T.g__law_take T.F__law_take.kp T.b__law_take .nil pass0 (pa_cons (pv 0) (pa_cons (pe_callB call_len_seq (by rfl) T.n_len PySem.boot_len (pa_cons (pv 3) pa_nil)) pa_nil))) (fun _ _ => rfl))) (pss_cons (ps_set (i := 5) sc__law_look.nd rfl (Or.inl rfl) (pe_op op_add (pe_op op_mul pe_int (pv 4)) pe_int)) (pss_cons (ps_if (pt_cmpR (op_neD hr.units) (pe_meth (pv 1) T.cl_Heap T.t_Heap_header G_Heap_header (hr.mono (by decide)) T.b_Heap_header .nil passL (pa_cons (pv 5) pa_nil)) (pe_callTy call_tuple_of (by rfl) T.n_tuple (by decide +kernel) (pa_cons (pe_slice sl_list (pv 2) (po_some (pv 4)) (po_some (pe_op op_add (pv 4) pe_int))) pa_nil)) (nomark _)) (pss_one (ps_ret pe_bl)) pss_nil) (pss_cons (ps_for PassesOwn.never rfl (pi_range1 rfl T.n_range (pa_cons (pe_ix (ixl (K := K) rfl) (pv 2) (pe_op op_add (pv 4) pe_int) (fun _ _ => rfl)) pa_nil)) (pg_name (i := 6) sc__law_look.nd rfl (Or.inl rfl)) (pss_one (ps_if (pt_cmpR op_ne (pe_meth (pv 1) T.cl_Heap T.t_Heap_field G_Heap_field (hr.mono (by decide)) T.b_Heap_field .nil passL (pa_cons (pv 5) (pa_cons (pv 6) pa_nil))) (pe_ix (ixl (K := K) rfl) (pv 2) (pe_op op_add (pe_op op_add (pv 4) pe_int) (pv 6)) (fun _ _ => rfl)) (nomark _)) (pss_one (ps_ret pe_bl)) pss_nil))) (Evl.pss_cut (ps_if (pt_cmpR op_gt (pe_ix (ixl (K := K) rfl) (pv 2) (pe_op op_add (pv 4) pe_int) (fun _ _ => rfl)) pe_int (nomark _)) (pss_cons (ps_set (i := 6) sc__law_look.nd rfl (Or.inl rfl) (pe_call G__law_take (hr.mono (by decide)) rfl T.g__law_take T.F__law_take.kp T.b__law_take .nil pass0 (pa_cons (pv 0) (pa_cons (pe_ix (ixl (K := K) rfl) (pv 2) (pe_op op_add (pv 4) pe_int) (fun _ _ => rfl)) pa_nil)))) (pss_cons (ps_asg (pe_call G__law_word (hr.mono (by decide)) rfl T.g__law_word T.F__law_word.kp T.b__law_word .nil pass0 (pa_cons (pv 0) (pa_cons (pv 3) pa_nil))) (pg_sub (pv 2) (pe_op op_add (pe_op op_add (pv 4) pe_int) (pv 6)) set_list)) (pss_cons (ps_expr (pe_meth (pv 1) T.cl_Heap T.t_Heap_store_field G_Heap_store_field (hr.mono (by decide)) T.b_Heap_store_field .nil passL (pa_cons (pv 5) (pa_cons (pv 6) (pa_cons (pe_ix (ixl (K := K) rfl) (pv 2) (pe_op op_add (pe_op op_add (pv 4) pe_int) (pv 6)) (fun _ _ => rfl)) pa_nil))))) (pss_one (ps_if (pt_cmpR op_ne (pe_meth (pv 1) T.cl_Heap T.t_Heap_field G_Heap_field (hr.mono (by decide)) T.b_Heap_field .nil passL (pa_cons (pv 5) (pa_cons (pv 6) pa_nil))) (pe_ix (ixl (K := K) rfl) (pv 2) (pe_op op_add (pe_op op_add (pv 4) pe_int) (pv 6)) (fun _ _ => rfl)) (nomark _)) (pss_one (ps_ret pe_bl)) pss_nil))))) pss_nil) (pss_cons (ps_set (i := 7) sc__law_look.nd rfl (Or.inl rfl) (pe_ix (ixl (K := K) rfl) (pe_lst (pa_cons (pe_op op_mul pe_int (pv 4)) (pa_cons (pe_op op_add (pe_op op_mul pe_int (pv 4)) pe_int) (pa_cons pe_int (pa_cons (pe_op op_add (pe_op op_mul pe_int (pe_op op_add (pv 4) pe_int)) pe_int) (pa_cons (pe_op op_add (pe_op op_mul pe_int (pe_callB call_len_seq (by rfl) T.n_len PySem.boot_len (pa_cons (pv 2) pa_nil))) pe_int) (pa_cons (pe_un un_neg pe_int) pa_nil))))))) (pe_call G__law_take (hr.mono (by decide)) rfl T.g__law_take T.F__law_take.kp T.b__law_take .nil pass0 (pa_cons (pv 0) (pa_cons pe_int pa_nil))) (fun _ _ => rfl))) (pss_one (ps_ret (pe_and (pe_cmpR op_eq (pe_call G__law_refused (hr.mono (by decide)) rfl T.g__law_refused T.F__law_refused.kp T.b__law_refused .nil pass0 (pa_cons (pv 1) (pa_cons (pv 7) (pa_cons pe_int pa_nil)))) pe_int (nomark _)) (pe_and (pe_cmpR op_eq (pe_call G__law_refused (hr.mono (by decide)) rfl T.g__law_refused T.F__law_refused.kp T.b__law_refused .nil pass0 (pa_cons (pv 1) (pa_cons (pv 5) (pa_cons (pe_ix (ixl (K := K) rfl) (pv 2) (pe_op op_add (pv 4) pe_int) (fun _ _ => rfl)) pa_nil)))) pe_int (nomark _)) (pe_one (pe_cmpR op_eq (pe_call G__law_refused (hr.mono (by decide)) rfl T.g__law_refused T.F__law_refused.kp T.b__law_refused .nil pass0 (pa_cons (pv 1) (pa_cons (pv 5) (pa_cons (pe_un un_neg pe_int) pa_nil)))) pe_int (nomark _)))))))))))))), ?_⟩
    refine ⟨_, rfl, bl, _, rfl, .inl (SqL.of q.bl), rfl, _, rfl, ite2 (fun c1 => ?_) (fun c1 => ?_)⟩
    · have e0 : (((nums (offs bs)).length : Nat) : Int) = 0 := V.int.inj (of_decide_eq_true c1)
      rw [nums_len, hol] at e0
      have no : ∀ x j, ¬ Ptr bs x j := fun x j p => by have := p.1; omega
      refine ⟨_, rfl, h, wd, bg, c, 1, 0, bs, rfl, q.heap, fun j b p => (no _ _ p).elim, fun _ => ?_, fun j p => (no _ _ p).elim⟩
      refine ⟨rfl, _, rfl, iteT (B := _) ?_⟩
      refine ⟨_, rfl, h, wd, bg, c, 3, 0, bs, rfl, q.heap, fun j b p => (no _ _ p).elim, fun _ => ?_, fun j p => (no _ _ p).elim⟩
      refine ⟨rfl, ?_⟩
      exact k bs H q (by omega) (by omega) fun a o _ _ _ _ _ e => e
    · have e0 : ¬ (((nums (offs bs)).length : Nat) : Int) = 0 := fun z => c1 (by rw [z]; rfl)
      rw [nums_len, hol] at e0
      refine ⟨_, rfl, _, rfl, _, rfl, bl, _, rfl, .inl (SqL.of q.bl), t, s, _, rfl, by rw [nums_len]; omega, by rw [nums_len]; omega, q.tape, fun r H1 hr0 hr1 hB1 hT1 => ?_⟩
      rw [nums_len, hol] at hr1
      have hj : r.toNat < bs.length := by omega
      refine ⟨bl, _, _, _, rfl, rfl, SqL.of ((hB1 bl nbt).trans q.bl), at_ints (j := r.toNat) (by omega) (offs_get hj), ?_⟩
      generalize r.toNat = j at hj ⊢
      obtain ⟨b, eb⟩ : ∃ b, bs[j]? = some b := ⟨_, List.getElem?_eq_getElem hj⟩
      have hfl := flat_len eb
      have p : Ptr bs (4 * (off bs j : Int) + 1) j := ⟨hj, rfl⟩
      have hp1 : HpAt A H1 h wd bg c bs := q.heap.keep fun a o e z => (hB1 a (by rcases z with z | z | z <;> subst z <;> assumption)).trans e
      obtain ⟨dx1, ho1⟩ := hp1.ob
      have hm1 : H1 md = some (.lst (nums (flat bs))) := (hB1 _ nmt).trans q.md
      refine ⟨_, rfl, _, _, rfl, rfl, .inl ⟨by decide, by decide⟩, _, _, rfl, rfl, ?_⟩
      refine ⟨_, rfl, h, dx1, _, rfl, ho1, hf_no _ _ _ (by decide +kernel) (by decide +kernel) (by decide +kernel), _, rfl, h, wd, bg, c, _, bs, rfl, hp1, fun j' b' p' eb' pt H2 hs2 hq2 => ?_, fun no => (no _ p).elim⟩
      have ej := p'.inj p
      subst ej
      rw [eb] at eb'
      cases eb'
      have hm2 := hs2 _ _ hm1
      refine ⟨_, rfl, _, rfl, _, rfl, _, rfl, _, _, rfl, rfl, _, rfl, md, _, rfl, SqL.of hm2, fun q1 hq1 => ?_⟩
      rw [cut_ints (i := off bs j') (j := off bs j' + 4) rfl (by omega) (by omega) (by omega), show off bs j' + 4 - off bs j' = 4 by omega, cut_head eb]
      refine ⟨q1, _, rfl, .inl ⟨SqL.of upd_same, fun q2 hq2' => ?_⟩⟩
      have hk2 : ∀ a o, a ≠ t → H a = some o → H2 a = some o := fun a o n e => hs2 a o ((hB1 a n).trans e)
      have nq1 : ∀ a o, H2 a = some o → a ≠ q1 := fun a o e => ne_of_none e hq1
      have nq2 : ∀ a o, H2 a = some o → a ≠ q2 := fun a o e => ne_of_none (Eq.trans (upd_ne (nq1 _ _ e)) e) hq2'
      have hk4 : ∀ a o, H2 a = some o → (upd (upd H2 q1 (.lst (nums [b.1.1, b.1.2.1, b.1.2.2, (b.2.length : Int)]))) q2 (.tup (nums [b.1.1, b.1.2.1, b.1.2.2, (b.2.length : Int)]))) a = some o := fun a o e => by
        rw [upd_ne (nq2 _ _ e), upd_ne (nq1 _ _ e)]
        exact e
      refine ⟨tupD [b.1.1, b.1.2.1, b.1.2.2, (b.2.length : Int)], tupD [b.1.1, b.1.2.1, b.1.2.2, (b.2.length : Int)], dp_tup (SqT.of (hk4 _ _ hq2)), dp_tup (SqT.of upd_same), tupD_shaped _, tupD_shaped _, _, rfl, ?_⟩
      rw [tupD_eqv, decide_eq_true rfl]
      refine iteF (A := _) ?_
      have hT2 : TapeAt H2 t s := hT1.keep fun a o e _ => hs2 a o e
      have hT4 : TapeAt (upd (upd H2 q1 (.lst (nums [b.1.1, b.1.2.1, b.1.2.2, (b.2.length : Int)]))) q2 (.tup (nums [b.1.1, b.1.2.1, b.1.2.2, (b.2.length : Int)]))) t s := hT2.keep fun a o e _ => hk4 a o e
      have hk5 : ∀ a o, a ≠ t → H a = some o → (upd (upd H2 q1 (.lst (nums [b.1.1, b.1.2.1, b.1.2.2, (b.2.length : Int)]))) q2 (.tup (nums [b.1.1, b.1.2.1, b.1.2.2, (b.2.length : Int)]))) a = some o := fun a o n e => hk4 a o (hk2 a o n e)
      generalize (upd (upd H2 q1 (.lst (nums [b.1.1, b.1.2.1, b.1.2.2, (b.2.length : Int)]))) q2 (.tup (nums [b.1.1, b.1.2.1, b.1.2.2, (b.2.length : Int)]))) = H4 at hT4 hk5 ⊢
      clear hk4 hk2 nq1 nq2
      have hp4 : HpAt A H4 h wd bg c bs := q.heap.keep fun a o e z => hk5 a o (by rcases z with z | z | z <;> subst z <;> assumption) e
      have hm4 := hk5 _ _ nmt q.md
      have hb4 := hk5 _ _ nbt q.bl
      obtain ⟨dx4, ho4⟩ := hp4.ob
      -- the fields
      refine ⟨_, rfl, _, rfl, _, _, rfl, rfl, md, _, _, _, rfl, rfl, SqL.of hm4, at_ints (j := off bs j' + 3) (by omega) (get_cnt eb), _, rfl, by omega, by omega, for_range (lo := 0) (n := ((b.2.length : Int)).toNat) (fun i σ' H' => ∃ v6 : Option V, σ' = [some (.ref t), some (.ref h), some (.ref md), some (.ref bl), some (.int (off bs j' : Int)), some (.int (4 * (off bs j' : Int) + 1)), v6, none] ∧ H' = H4) ⟨none, rfl, rfl⟩ ?_ ?_⟩
      · rintro i σ' H5 hi ⟨v6, rfl, rfl⟩
        have hib : i < b.2.length := by omega
        have hev : b.2[i]? = some b.2[i] := List.getElem?_eq_getElem hib
        have hg := get_fld eb i hib
        rw [hev] at hg
        refine ⟨_, rfl, h, dx4, _, rfl, ho4, hf_no _ _ _ (by decide +kernel) (by decide +kernel) (by decide +kernel), _, rfl, _, rfl, h, wd, bg, c, _, _, bs, rfl, hp4, fun j b2 v p2 eb2 h0 ev => ?_, fun no => (no _ _ p eb ⟨by omega, by omega⟩).elim⟩
        have ej := p2.inj p
        subst ej
        rw [eb] at eb2
        cases eb2
        rw [show (0 + (i : Int)).toNat = i by omega, hev] at ev
        cases ev
        refine ⟨_, rfl, _, rfl, _, _, rfl, rfl, _, rfl, _, _, rfl, rfl, md, _, _, _, rfl, rfl, SqL.of hm4, at_ints (j := off bs j + 4 + i) (by omega) hg, rfl, _, rfl, ?_⟩
        refine iteNS (A := _) rfl ?_
        exact ⟨_, rfl, rfl⟩
      · rintro σ' H5 ⟨v6, rfl, rfl⟩
        -- one is changed
        refine ⟨fun σ' H' => ∃ (v6 : Option V) (bs' : List Blk) (b' : Blk), σ' = [some (.ref t), some (.ref h), some (.ref md), some (.ref bl), some (.int (off bs j' : Int)), some (.int (4 * (off bs j' : Int) + 1)), v6, none] ∧ bs'.length = bs.length ∧ (flat bs').length = (flat bs).length ∧ off bs' j' = off bs j' ∧ bs'[j']? = some b' ∧ b'.2.length = b.2.length ∧ St A H' t s h wd bg md bl c bs' ∧ Kp5 t wd bg md bl H H', ?_, ?_⟩
        · refine ⟨_, rfl, _, rfl, _, _, rfl, rfl, md, _, _, _, rfl, rfl, SqL.of hm4, at_ints (j := off bs j' + 3) (by omega) (get_cnt eb), _, _, rfl, rfl, _, rfl, ite2 (fun c2 => ?_) (fun c2 => ?_)⟩
          · have hpos : (0 : Int) < (b.2.length : Int) := of_decide_eq_true c2
            refine ⟨_, rfl, _, rfl, _, rfl, _, _, rfl, rfl, md, _, _, _, rfl, rfl, SqL.of hm4, at_ints (j := off bs j' + 3) (by omega) (get_cnt eb), t, s, _, rfl, hpos, by omega, hT4, fun r2 H6 hr2 hr3 hB6 hT6 => ?_⟩
            refine ⟨_, rfl, _, rfl, t, s, bl, offs bs, rfl, hT6, (hB6 _ nbt).trans hb4, by omega, fun x H7 hB7 hT7 => ?_⟩
            have hB67 : But t H5 H7 := hB6.trans hB7
            have hi : r2.toNat < b.2.length := by omega
            have hB57 : ∀ a o, a ≠ t → H a = some o → H7 a = some o := fun a o n e => (hB67 a n).trans (hk5 a o n e)
            have hm7 := hB57 _ _ nmt q.md
            have hb7 := hB57 _ _ nbt q.bl
            have hp7 : HpAt A H7 h wd bg c bs := q.heap.keep fun a o e z => hB57 a o (by rcases z with z | z | z <;> subst z <;> assumption) e
            have hset : (nums (flat bs)).set (off bs j' + 4 + r2.toNat) (.int x) = nums (flat (bs.set j' (b.1, b.2.set r2.toNat x))) := by
              rw [← set_fld eb r2.toNat hi x]
              show _ = List.map V.int _
              rw [List.map_set]
            refine ⟨_, rfl, _, rfl, _, _, rfl, rfl, _, rfl, _, _, rfl, rfl, md, _, _, off bs j' + 4 + r2.toNat, rfl, rfl, hm7, ?_, ?_⟩
            · rw [show (off bs j' : Int) + 4 + r2 = ((off bs j' + 4 + r2.toNat : Nat) : Int) by omega]
              exact ixN_nat (by rw [nums_len]; omega)
            rw [hset]
            have eb2 : (bs.set j' (b.1, b.2.set r2.toNat x))[j']? = some (b.1, b.2.set r2.toNat x) := by
              rw [List.getElem?_set_self hj]
            have hof : off (bs.set j' (b.1, b.2.set r2.toNat x)) j' = off bs j' := off_set eb (by simp) j'
            have hlb : (bs.set j' (b.1, b.2.set r2.toNat x)).length = bs.length := List.length_set
            have hlf : (flat (bs.set j' (b.1, b.2.set r2.toNat x))).length = (flat bs).length := by
              rw [← set_fld eb r2.toNat hi x, List.length_set]
            have hos : offs (bs.set j' (b.1, b.2.set r2.toNat x)) = offs bs := offs_congr (lens_set eb (by simp))
            generalize hbs : (bs.set j' (b.1, b.2.set r2.toNat x)) = bs2 at eb2 hof hlb hlf hos hset ⊢
            have hm8 : (upd H7 md (.lst (nums (flat bs2)))) md = some (.lst (nums (flat bs2))) := upd_same
            have hb8 : (upd H7 md (.lst (nums (flat bs2)))) bl = some (.lst (nums (offs bs))) := by rw [upd_ne ap.bm]; exact hb7
            have hT8 : TapeAt (upd H7 md (.lst (nums (flat bs2)))) t s := hT7.upd nmt (fun z => ap.sm z.symm)
            have hp8 : HpAt A (upd H7 md (.lst (nums (flat bs2)))) h wd bg c bs := hp7.keep fun a o e z => by
              rw [upd_ne (by rcases z with z | z | z <;> subst z <;> first | exact nhm | exact ap.mw.symm | exact ngm)]
              exact e
            have hk8 : ∀ a o, a ≠ t → a ≠ md → H a = some o → (upd H7 md (.lst (nums (flat bs2)))) a = some o := fun a o n1 n2 e => by
              rw [upd_ne n2]
              exact hB57 a o n1 e
            generalize (upd H7 md (.lst (nums (flat bs2)))) = H8 at hm8 hb8 hT8 hp8 hk8 ⊢
            obtain ⟨dx8, ho8⟩ := hp8.ob
            have hg2 : (flat bs2)[off bs j' + 4 + r2.toNat]? = some x := by
              have := get_fld eb2 r2.toNat (by simp; exact hi)
              rw [hof] at this
              rw [this]
              show (b.2.set r2.toNat x)[r2.toNat]? = some x
              rw [List.getElem?_set_self hi]
            -- store
            refine ⟨_, rfl, h, dx8, _, rfl, ho8, hf_no _ _ _ (by decide +kernel) (by decide +kernel) (by decide +kernel), _, rfl, _, rfl, _, rfl, _, rfl, _, _, rfl, rfl, _, rfl, _, _, rfl, rfl, md, _, _, _, rfl, rfl, SqL.of hm8, at_ints (j := off bs j' + 4 + r2.toNat) (by omega) hg2, h, wd, bg, c, _, _, x, bs, rfl, hp8, fun j2 b2 p2 eb3 h0 h1 H9 hp9 hB9 => ?_, fun no => (no _ _ p eb ⟨hr2, hr3⟩).elim⟩
            have ej := p2.inj p
            subst ej
            rw [eb] at eb3
            cases eb3
            rw [hbs] at hp9
            have hm9 := (hB9 md ap.mw).trans hm8
            have hb9 := (hB9 bl ap.bw).trans hb8
            have hT9 : TapeAt H9 t s := hT8.keep fun a o e z => (hB9 a (by rcases z with z | z <;> subst z <;> first | exact nwt.symm | exact ap.sw)).trans e
            obtain ⟨dx9, ho9⟩ := hp9.ob
            have p9 : Ptr bs2 (4 * (off bs j2 : Int) + 1) j2 := ⟨by omega, by rw [hof]⟩
            refine ⟨_, rfl, h, dx9, _, rfl, ho9, hf_no _ _ _ (by decide +kernel) (by decide +kernel) (by decide +kernel), _, rfl, _, rfl, h, wd, bg, c, _, _, bs2, rfl, hp9, fun j3 b3 v3 p3 eb3 h0 ev => ?_, fun no => (no _ _ p9 eb2 ⟨hr2, by show r2 < ((b.2.set r2.toNat x).length : Int); rw [List.length_set]; exact hr3⟩).elim⟩
            have ej := p3.inj p9
            subst ej
            rw [eb2] at eb3
            cases eb3
            have ev' : (b.2.set r2.toNat x)[r2.toNat]? = some v3 := ev
            rw [List.getElem?_set_self hi] at ev'
            cases ev'
            refine ⟨_, rfl, _, rfl, _, _, rfl, rfl, _, rfl, _, _, rfl, rfl, md, _, _, _, rfl, rfl, SqL.of hm9, at_ints (j := off bs j3 + 4 + r2.toNat) (by omega) hg2, rfl, _, rfl, ?_⟩
            refine iteNS (A := _) rfl ?_
            refine ⟨_, bs2, _, rfl, hlb, hlf, hof, eb2, List.length_set, ⟨hT9, hp9, hm9, by rw [hb9, hos]⟩, fun a o n1 n2 n3 n4 n5 e => (hB9 a n2).trans (hk8 a o n1 n4 e)⟩
          · exact ⟨_, bs, b, rfl, rfl, rfl, rfl, eb, rfl, ⟨hT4, hp4, hm4, hb4⟩, fun a o n1 _ _ _ _ e => hk5 a o n1 e⟩
        · rintro σ' H6 ⟨v6', bs', b', rfl, hl', hf', ho', eb', hbl', q', hk'⟩
          refine ⟨_, rfl, _, _, rfl, rfl, .inl ⟨by decide, by decide⟩, _, rfl, _, _, rfl, rfl, .inl ⟨by decide, by decide⟩, _, _, rfl, rfl, _, rfl, _, _, rfl, rfl, _, _, rfl, rfl, .inl ⟨by decide, by decide⟩, _, _, rfl, rfl, _, rfl, md, _, rfl, .inl (SqL.of q'.md), _, _, rfl, rfl, .inl ⟨by decide, by decide⟩, _, _, rfl, rfl, _, rfl, (show 6 ≤ sizeLine by decide), fun L hL => ?_⟩
          have nL : ∀ a o, H6 a = some o → a ≠ L := fun a o e => ne_of_none e hL
          obtain ⟨ot, et⟩ := q'.tape.at_t
          have nLt : L ≠ t := (nL _ _ et).symm
          refine ⟨_, rfl, t, s, 6, rfl, by decide, by decide, q'.tape.new hL, fun r3 H7 hr30 hr31 hB7 hT7 => ?_⟩
          obtain ⟨bad, hbad, hno⟩ := bad_no (bs := bs') (j0 := j') (by omega) hr30 hr31
          rw [ho'] at hbad
          have hL7 := (hB7 L nLt).trans upd_same
          have hkk : ∀ a o, a ≠ t → H6 a = some o → H7 a = some o := fun a o n e => by
            rw [hB7 a n, upd_ne (nL _ _ e)]
            exact e
          have hp7 : HpAt A H7 h wd bg c bs' := q'.heap.keep fun a o e z => hkk a o (by rcases z with z | z | z <;> subst z <;> assumption) e
          have hm7 := hkk _ _ nmt q'.md
          have hb7 := hkk _ _ nbt q'.bl
          have p7 : Ptr bs' (4 * (off bs j' : Int) + 1) j' := ⟨by omega, by rw [ho']⟩
          refine ⟨L, _, _, _, rfl, rfl, SqL.of hL7, at_ints (j := r3.toNat) (by omega) hbad, ?_⟩
          refine ⟨_, rfl, _, rfl, h, wd, bg, c, bad, 0, bs', rfl, hp7, fun j b p => (hno _ p).elim, fun _ => ?_, fun j p => (hno _ p).elim⟩
          refine ⟨rfl, _, rfl, iteT (B := _) ?_⟩
          refine ⟨_, rfl, _, rfl, _, rfl, _, rfl, _, _, rfl, rfl, md, _, _, _, rfl, rfl, SqL.of hm7, at_ints (j := off bs' j' + 3) (by omega) (get_cnt eb'), h, wd, bg, c, _, _, bs', rfl, hp7, fun j3 b3 p3 eb3 z => ?_, fun no => (no _ p7).elim, fun j3 p3 H8 hs8 => ?_⟩
          · have ej := p3.inj p7
            subst ej
            rw [eb'] at eb3
            cases eb3
            have := z.2
            omega
          refine ⟨rfl, _, rfl, iteT (B := _) ?_⟩
          have hp8 : HpAt A H8 h wd bg c bs' := hp7.keep fun a o e _ => hs8 a o e
          refine ⟨_, rfl, _, rfl, _, rfl, h, wd, bg, c, _, _, bs', rfl, hp8, fun j3 b3 p3 eb3 z => ?_, fun no => (no _ p7).elim, fun j3 p3 H9 hs9 => ?_⟩
          · have := z.1
            omega
          refine ⟨rfl, ?_⟩
          exact k bs' H9 ⟨hT7.keep fun a o e _ => hs9 _ _ (hs8 _ _ e), hp8.keep fun a o e _ => hs9 a o e, hs9 _ _ (hs8 _ _ hm7), hs9 _ _ (hs8 _ _ hb7)⟩ (by omega) (by omega) fun a o n1 n2 n3 n4 n5 e => hs9 _ _ (hs8 _ _ (hkk a o n1 (hk' a o n1 n2 n3 n4 n5 e)))
end
end K72

set_option Elab.async false
set_option maxRecDepth 100000
set_option linter.all false
set_option maxHeartbeats 40000000
namespace K72
open PySem L2 GC
section
variable {P : Program} {w : World} {K : PySem.W.Frag} {mg : Str → Option Value} {base : Heap} {A : Adr}
def spLaw (K : PySem.W.Frag) : Sp := fun vs H Q _ => ∃ (a : Addr) (ns : List Int), vs = [.ref a] ∧ SqL K H a (ns.map V.int) ∧ ns.length ≤ 63 ∧ ∀ H', Q (.bl true) H'
theorem old2 {H : Hp} {x dx : Addr} {o1 o2 : HO} (hx : H x = none) (hd : H dx = none) {a : Addr} {o : HO} (e : H a = some o) : (upd (upd H dx o1) x o2) a = some o := by
  rw [upd_ne (ne_of_none e hx), upd_ne (ne_of_none e hd)]
  exact e
theorem ok_law (T : Txt K mg A) : FnOk P w K mg base CX0 7 A.f_law A.d_law ["script"] (spLaw K) := by
  have G__law_tape : FnOk P w K mg base CX0 1 A.f__law_tape A.d__law_tape _ _ := ok__law_tape T
  have G__law_take : FnOk P w K mg base CX0 2 A.f__law_take A.d__law_take _ _ := ok__law_take T
  have G_Heap___init__ : FnOk P w K mg base CX0 1 A.f_Heap___init__ A.d_Heap___init__ _ _ := ok_init T
  have G__law_make : FnOk P w K mg base CX0 5 A.f__law_make A.d__law_make _ _ := ok_lmake T
  have G__law_look : FnOk P w K mg base CX0 6 A.f__law_look A.d__law_look _ _ := ok_llook T
  refine T.F_law.ok sc_law (fun vs H Q E h => ?_) (fun cdv Ar outer s H vs Q E hr h => ?_)
  · obtain ⟨a, ns, rfl, _⟩ := h
    rfl
  · obtain ⟨a, ns, rfl, hS, hlen, k⟩ := h
    refine ⟨_, (pss_cons (ps_set (i := 1) sc_law.nd rfl (Or.inl rfl) (pe_call G__law_tape (hr.mono (by decide)) rfl T.g__law_tape T.F__law_tape.kp T.b__law_tape .nil pass0 (pa_cons (pv 0) (pa_cons pe_int pa_nil)))) (pss_cons (ps_set (i := 2) sc_law.nd rfl (Or.inl rfl) (pe_call G__law_take (hr.mono (by decide)) rfl T.g__law_take T.F__law_take.kp T.b__law_take .nil pass0 (pa_cons (pv 1) (pa_cons pe_int pa_nil)))) (pss_cons (ps_set (i := 3) sc_law.nd rfl (Or.inl rfl) (pe_make T.m_Heap G_Heap___init__ (hr.mono (by decide)) rfl T.g_Heap T.b_Heap___init__ .nil pass0 (pa_cons (pv 2) pa_nil))) (pss_cons (ps_set (i := 4) sc_law.nd rfl (Or.inl rfl) (pe_make T.m_Heap G_Heap___init__ (hr.mono (by decide)) rfl T.g_Heap T.b_Heap___init__ .nil pass0 (pa_cons (pv 2) pa_nil))) (pss_cons (ps_set (i := 5) sc_law.nd rfl (Or.inl rfl) (pe_lst pa_nil)) (pss_cons (ps_set (i := 6) sc_law.nd rfl (Or.inl rfl) (pe_lst pa_nil)) (pss_cons (ps_for PassesOwn.never rfl (pi_range1 rfl T.n_range (pa_cons (pe_call G__law_take (hr.mono (by decide)) rfl T.g__law_take T.F__law_take.kp T.b__law_take .nil pass0 (pa_cons (pv 1) (pa_cons pe_int pa_nil))) pa_nil)) (pg_name (i := 7) sc_law.nd rfl (Or.inl rfl)) (pss_cons (ps_if (pt_cmpR op_gt (pe_call G__law_take (hr.mono (by decide)) rfl T.g__law_take T.F__law_take.kp T.b__law_take .nil pass0 (pa_cons (pv 1) (pa_cons pe_int pa_nil))) pe_int (nomark _)) (pss_one (ps_set (i := 8) sc_law.nd rfl (Or.inl rfl) (pe_call G__law_make (hr.mono (by decide)) rfl T.g__law_make T.F__law_make.kp T.b__law_make .nil pass0 (pa_cons (pv 1) (pa_cons (pv 3) (pa_cons (pv 5) (pa_cons (pv 6) (pa_cons (pv 2) pa_nil)))))))) (pss_one (ps_set (i := 8) sc_law.nd rfl (Or.inl rfl) (pe_call G__law_look (hr.mono (by decide)) rfl T.g__law_look T.F__law_look.kp T.b__law_look .nil pass0 (pa_cons (pv 1) (pa_cons (pv 3) (pa_cons (pv 5) (pa_cons (pv 6) pa_nil)))))))) (pss_one (ps_if (PW.pt (pw_or (pt_not (pt_val (pv 8) (by intro _; rfl))) (pw_or (pt_cmpR (op_neD hr.units) (pe_fld (pv 3) rfl) (pv 5) (nomark _)) (pw_or1 (pt_cmpR op_ne (pe_fld (pv 3) rfl) (pv 2) (nomark _)))))) (pss_one (ps_ret pe_bl)) pss_nil)))) (pss_one (ps_ret (pe_and (pe_cmpR (op_eqD hr.units) (pe_fld (pv 4) rfl) (pe_lst pa_nil) (nomark _)) (pe_one (pe_cmpR op_eq (pe_fld (pv 4) rfl) (pv 2) (nomark _))))))))))))), ?_⟩
    refine ⟨_, rfl, a, ns, 0, rfl, hS, fun t s H1 ht hs hSm1 hT1 => ?_⟩
    refine ⟨_, rfl, t, s, 61, rfl, by decide, by decide, hT1, fun c H2 hc0 hc1 hB2 hT2 => ?_⟩
    -- the first heap
    refine ⟨_, rfl, fun h dx hh hdx ndh => ⟨h, dx, c, rfl, upd_same, fun wd bg H3 hwd hbg nwg nwh nbh hk3 hp3 => ⟨rfl, ?_⟩⟩⟩
    have ho2 : ∀ a o, H2 a = some o → H3 a = some o := fun a o e => hk3 a o (ne_of_none e hh) (old2 hh hdx e)
    have fr3 : ∀ {a o}, H3 a = none → H2 a = some o → False := fun {a o} z e => by rw [ho2 _ _ e] at z; cases z
    have nw2 : ∀ a o, H2 a = some o → a ≠ wd := fun a o e => ne_of_none (old2 hh hdx e) hwd
    have ng2 : ∀ a o, H2 a = some o → a ≠ bg := fun a o e => ne_of_none (old2 hh hdx e) hbg
    have hT3 : TapeAt H3 t s := hT2.keep fun a o e _ => ho2 a o e
    obtain ⟨ot, et⟩ := hT2.at_t
    obtain ⟨os, es⟩ := hT2.at_s
    -- the second
    refine ⟨_, rfl, fun h2 dx2 hh2 hdx2 ndh2 => ⟨h2, dx2, c, rfl, upd_same, fun wd2 bg2 H4 hwd2 hbg2 nwg2 nwh2 nbh2 hk4 hp4 => ⟨rfl, ?_⟩⟩⟩
    have ho4 : ∀ a o, H3 a = some o → H4 a = some o := fun a o e => hk4 a o (ne_of_none e hh2) (old2 hh2 hdx2 e)
    have hT4 : TapeAt H4 t s := hT3.keep fun a o e _ => ho4 a o e
    have hp34 : HpAt A H4 h wd bg c [] := hp3.keep fun a o e _ => ho4 a o e
    have n2h : ∀ a o, H3 a = some o → a ≠ h2 := fun a o e => ne_of_none e hh2
    have n2w : ∀ a o, H3 a = some o → a ≠ wd2 := fun a o e => ne_of_none (old2 hh2 hdx2 e) hwd2
    have n2g : ∀ a o, H3 a = some o → a ≠ bg2 := fun a o e => ne_of_none (old2 hh2 hdx2 e) hbg2
    obtain ⟨dxh, eh3⟩ := hp3.ob
    obtain ⟨kv3, eg3, _⟩ := hp3.bg
    have ew3 := hp3.wd
    have et3 := ho2 _ _ et
    -- model, blocks
    refine ⟨Nat.zero_le _, fun md hmd => ⟨Nat.zero_le _, fun bl hbl => ?_⟩⟩
    have nmb : md ≠ bl := ne_of_none upd_same hbl
    have hbl0 : H4 bl = none := by rw [upd_ne nmb.symm] at hbl; exact hbl
    have ok6 : ∀ a o, H4 a = some o → (upd (upd H4 md (.lst [])) bl (.lst [])) a = some o := fun a o e => by
      rw [upd_ne (ne_of_none e hbl0), upd_ne (ne_of_none e hmd)]
      exact e
    have hT6 : TapeAt (upd (upd H4 md (.lst [])) bl (.lst [])) t s := hT4.keep fun a o e _ => ok6 a o e
    have hp6 : HpAt A (upd (upd H4 md (.lst [])) bl (.lst [])) h wd bg c [] := hp34.keep fun a o e _ => ok6 a o e
    have hq6 : HpAt A (upd (upd H4 md (.lst [])) bl (.lst [])) h2 wd2 bg2 c [] := hp4.keep fun a o e _ => ok6 a o e
    have hm6 : (upd (upd H4 md (.lst [])) bl (.lst [])) md = some (.lst []) := by rw [upd_ne nmb, upd_same]
    have hb6 : (upd (upd H4 md (.lst [])) bl (.lst [])) bl = some (.lst []) := upd_same
    have nm : ∀ a o, H4 a = some o → a ≠ md := fun a o e => ne_of_none e hmd
    have nb : ∀ a o, H4 a = some o → a ≠ bl := fun a o e => ne_of_none e hbl0
    generalize (upd (upd H4 md (.lst [])) bl (.lst [])) = H6 at hT6 hp6 hq6 hm6 hb6 ok6 ⊢
    have ap : Apart t s h wd bg md bl := ⟨(nm _ _ hp34.wd).symm, (nb _ _ hp34.wd).symm, nmb.symm, nw2 _ _ es, nm _ _ (ho4 _ _ (ho2 _ _ es)), nb _ _ (ho4 _ _ (ho2 _ _ es))⟩
    obtain ⟨dx4, eh4⟩ := hp4.ob
    obtain ⟨kv4, eg4, _⟩ := hp4.bg
    have far : ∀ a, (a = h2 ∨ a = wd2 ∨ a = bg2) → a ≠ t ∧ a ≠ wd ∧ a ≠ bg ∧ a ≠ md ∧ a ≠ bl := fun a z => by
      rcases z with z | z | z <;> subst z
      · exact ⟨(n2h _ _ et3).symm, (n2h _ _ ew3).symm, (n2h _ _ eg3).symm, nm _ _ eh4, nb _ _ eh4⟩
      · exact ⟨(n2w _ _ et3).symm, (n2w _ _ ew3).symm, (n2w _ _ eg3).symm, nm _ _ hp4.wd, nb _ _ hp4.wd⟩
      · exact ⟨(n2g _ _ et3).symm, (n2g _ _ ew3).symm, (n2g _ _ eg3).symm, nm _ _ eg4, nb _ _ eg4⟩
    have keep2 : ∀ {Ha Hb : Hp}, HpAt A Ha h2 wd2 bg2 c [] → Kp5 t wd bg md bl Ha Hb → HpAt A Hb h2 wd2 bg2 c [] := fun {Ha Hb} q kp => q.keep fun a o e z => by
      obtain ⟨z1, z2, z3, z4, z5⟩ := far a z
      exact kp a o z1 z2 z3 z4 z5 e
    refine ⟨_, rfl, t, s, 16, rfl, by decide, by decide, hT6, fun r H7 hr0 hr1 hB7 hT7 => ⟨r, rfl, by omega, by omega, for_range (lo := 0) (n := r.toNat) (fun i σ' H' => ∃ (bs : List Blk) (v7 v8 : Option V), σ' = [some (.ref a), some (.ref t), some (.int c), some (.ref h), some (.ref h2), some (.ref md), some (.ref bl), v7, v8] ∧
      bs.length ≤ i ∧ (flat bs).length ≤ 8 * i ∧ St A H' t s h wd bg md bl c bs ∧ HpAt A H' h2 wd2 bg2 c []) ?_ ?_ ?_⟩⟩
    · have k7 : ∀ a o, a ≠ t → H6 a = some o → H7 a = some o := fun a o n e => (hB7 a n).trans e
      refine ⟨[], none, none, rfl, Nat.le_refl _, Nat.le_refl _, ⟨hT7, hp6.keep fun a o e z => k7 a o ?_ e, ?_, ?_⟩, hq6.keep fun a o e z => k7 a o (far a z).1 e⟩
      · rcases z with z | z | z <;> subst z
        · exact (ne_of (ho4 _ _ eh3) (ho4 _ _ et3) (by
            obtain ⟨ns', p', d', m', b', h1, _⟩ := hT3
            intro z
            rw [et3] at h1
            cases h1
            cases z))
        · exact (nw2 _ _ et).symm
        · exact (ng2 _ _ et).symm
      · exact k7 _ _ (nm _ _ (ho4 _ _ et3)).symm hm6
      · exact k7 _ _ (nb _ _ (ho4 _ _ et3)).symm hb6
    · rintro i σ' H8 hi ⟨bs, v7, v8, rfl, hbi, hfi, q, q2⟩
      obtain ⟨nwt, nmt, nbt, nht, ngt, nhw, nhm, nhb, ngw, ngm, ngb, nhg, nhs, ngs⟩ := q.no
      refine ⟨_, rfl, t, s, 3, rfl, by decide, by decide, q.tape, fun r2 H9 hr20 hr21 hB9 hT9 => ?_⟩
      have k9 : ∀ a o, a ≠ t → H8 a = some o → H9 a = some o := fun a o n e => (hB9 a n).trans e
      have q9 : St A H9 t s h wd bg md bl c bs := ⟨hT9, q.heap.keep fun a o e z => k9 a o (by rcases z with z | z | z <;> subst z <;> assumption) e, k9 _ _ nmt q.md, k9 _ _ nbt q.bl⟩
      have q29 := q2.keep fun a o e z => k9 a o (far a z).1 e
      refine ⟨_, _, rfl, rfl, _, rfl, ite2 (fun c1 => ⟨_, rfl, _, rfl, _, rfl, _, rfl, _, rfl, t, s, h, wd, bg, md, bl, c, bs, rfl, q9, ap, by omega, by omega, fun bs' H' q' hl hf kp => ?_⟩) (fun c1 => ⟨_, rfl, _, rfl, _, rfl, _, rfl, t, s, h, wd, bg, md, bl, c, bs, rfl, q9, ap, by omega, by omega, fun bs' H' q' hl hf kp => ?_⟩)⟩
      all_goals
        obtain ⟨dx', ho'⟩ := q'.heap.ob
        refine ⟨_, rfl, _, rfl, ?_⟩
        refine iteF (A := _) ?_
        refine ⟨_, rfl, h, A.c_Heap, dx', _, _, rfl, ho', T.cl_Heap, T.no_Heap_words, hf_words _ _ _, _, rfl, numsD (flat bs'), numsD (flat bs'), dp_nums (SqL.of q'.heap.wd), dp_nums (SqL.of q'.md), numsD_shaped _, numsD_shaped _, _, rfl, ?_⟩
        rw [numsD_eqv, decide_eq_true rfl]
        refine iteF (A := _) ?_
        refine ⟨_, rfl, h, A.c_Heap, dx', _, _, rfl, ho', T.cl_Heap, T.no_Heap_cells, hf_cells _ _ _, _, rfl, rfl, _, rfl, ?_⟩
        refine iteNS (A := _) rfl ?_
        exact ⟨bs', _, _, rfl, by omega, by omega, q', keep2 q29 kp⟩
    · rintro σ' H8 ⟨bs, v7, v8, rfl, hbi, hfi, q, q2⟩
      obtain ⟨dx', ho'⟩ := q2.ob
      refine ⟨_, rfl, h2, A.c_Heap, dx', _, _, rfl, ho', T.cl_Heap, T.no_Heap_words, hf_words _ _ _, Nat.zero_le _, fun e he => ?_⟩
      have ne := ne_of_none q2.wd he
      have nhe := ne_of_none ho' he
      refine ⟨numsD [], numsD [], dp_nums (SqL.of (Eq.trans (upd_ne ne) q2.wd)), dp_nums (SqL.of upd_same), numsD_shaped _, numsD_shaped _, ?_⟩
      rw [numsD_eqv, decide_eq_true rfl]
      refine ⟨_, rfl, iteT (B := _) ?_⟩
      refine ⟨_, rfl, h2, A.c_Heap, dx', _, _, rfl, Eq.trans (upd_ne nhe) ho', T.cl_Heap, T.no_Heap_cells, hf_cells _ _ _, _, rfl, rfl, ?_⟩
      rw [decide_eq_true rfl]
      exact k _
end
end K72

set_option Elab.async false
set_option maxRecDepth 100000
set_option linter.all false
set_option maxHeartbeats 4000000
set_option pp.maxSteps 400
namespace K72
open PySem L2 GC
theorem all_mk {l : PySem.W.OpenLaw} {w : World} {K : PySem.W.Frag} {h : Heap} {mg : Str → Option Value} {fa : Addr} (X : K.In h) (G : h.Ns mainGlobals mg) (hfa : mg "law" = some (.ref fa))
    {f0 f1 f2 f3 f4 f5 f6 f7 f8 f9 f10 f11 f12 f13 f14 f15 f16 C_Heap C_OutOfRoom C_NoBlock C_ShapewrightError : Addr} {od0 an0 od1 an1 od2 an2 od3 an3 od4 an4 od5 an5 od6 an6 od7 an7 od8 an8 od9 an9 od10 an10 od11 an11 od12 an12 od13 an13 od14 an14 od15 an15 od16 an16 : Option Addr} {sl0 sl1 sl2 sl3 sl4 sl5 sl6 sl7 sl8 sl9 sl10 sl11 sl12 sl13 sl14 sl15 sl16 : Array (Option Value)} {oc0 kV0 dc0 pm0 cd0 ct0 oc1 kV1 dc1 pm1 cd1 ct1 oc2 kV2 dc2 pm2 cd2 ct2 oc3 kV3 dc3 pm3 cd3 ct3 oc4 kV4 dc4 pm4 cd4 ct4 oc5 kV5 dc5 pm5 cd5 ct5 oc6 kV6 dc6 pm6 cd6 ct6 oc7 kV7 dc7 pm7 cd7 ct7 oc8 kV8 dc8 pm8 cd8 ct8 oc9 kV9 dc9 pm9 cd9 ct9 oc10 kV10 dc10 pm10 cd10 ct10 oc11 kV11 dc11 pm11 cd11 ct11 oc12 kV12 dc12 pm12 cd12 ct12 oc13 kV13 dc13 pm13 cd13 ct13 oc14 kV14 dc14 pm14 cd14 ct14 oc15 kV15 dc15 pm15 cd15 ct15 oc16 kV16 dc16 pm16 cd16 ct16 : Value} {t_HEADER : Tok}
    (a0 : PySem.W.nsIn K mainGlobals "is_block" = some (some (.ref f0)))
    (l0 : K.lookup f0 = some ⟨oc0, od0, .func (PySem.W.fnOf "is_block" "is_block" (defArgs s_is_block) (defBody s_is_block) (defScope s_is_block) .none kV0 dc0 pm0 an0 cd0 ct0), sl0⟩) (c0 : PySem.W.codeIn K cd0 "is_block" = true) (k0 : PySem.W.keepIn K (.ref f0) = true)
    (a1 : PySem.W.findIn K (.ref C_Heap) "__init__" = some (some (.ref f1))) (i1 : PySem.W.isFn K (.ref f1) = true)
    (l1 : K.lookup f1 = some ⟨oc1, od1, .func (PySem.W.fnOf "__init__" "Heap.__init__" (defArgs s_Heap___init__) (defBody s_Heap___init__) (defScope s_Heap___init__) .none kV1 dc1 pm1 an1 cd1 ct1), sl1⟩) (c1 : PySem.W.codeIn K cd1 "Heap.__init__" = true) (k1 : PySem.W.keepIn K (.ref f1) = true)
    (a2 : PySem.W.findIn K (.ref C_Heap) "fits" = some (some (.ref f2))) (i2 : PySem.W.isFn K (.ref f2) = true)
    (l2 : K.lookup f2 = some ⟨oc2, od2, .func (PySem.W.fnOf "fits" "Heap.fits" (defArgs s_Heap_fits) (defBody s_Heap_fits) (defScope s_Heap_fits) .none kV2 dc2 pm2 an2 cd2 ct2), sl2⟩) (c2 : PySem.W.codeIn K cd2 "Heap.fits" = true) (k2 : PySem.W.keepIn K (.ref f2) = true)
    (a3 : PySem.W.findIn K (.ref C_Heap) "make" = some (some (.ref f3))) (i3 : PySem.W.isFn K (.ref f3) = true)
    (l3 : K.lookup f3 = some ⟨oc3, od3, .func (PySem.W.fnOf "make" "Heap.make" (defArgs s_Heap_make) (defBody s_Heap_make) (defScope s_Heap_make) .none kV3 dc3 pm3 an3 cd3 ct3), sl3⟩) (c3 : PySem.W.codeIn K cd3 "Heap.make" = true) (k3 : PySem.W.keepIn K (.ref f3) = true)
    (a4 : PySem.W.findIn K (.ref C_Heap) "address" = some (some (.ref f4))) (i4 : PySem.W.isFn K (.ref f4) = true)
    (l4 : K.lookup f4 = some ⟨oc4, od4, .func (PySem.W.fnOf "address" "Heap.address" (defArgs s_Heap_address) (defBody s_Heap_address) (defScope s_Heap_address) .none kV4 dc4 pm4 an4 cd4 ct4), sl4⟩) (c4 : PySem.W.codeIn K cd4 "Heap.address" = true) (k4 : PySem.W.keepIn K (.ref f4) = true)
    (a5 : PySem.W.findIn K (.ref C_Heap) "header" = some (some (.ref f5))) (i5 : PySem.W.isFn K (.ref f5) = true)
    (l5 : K.lookup f5 = some ⟨oc5, od5, .func (PySem.W.fnOf "header" "Heap.header" (defArgs s_Heap_header) (defBody s_Heap_header) (defScope s_Heap_header) .none kV5 dc5 pm5 an5 cd5 ct5), sl5⟩) (c5 : PySem.W.codeIn K cd5 "Heap.header" = true) (k5 : PySem.W.keepIn K (.ref f5) = true)
    (a6 : PySem.W.findIn K (.ref C_Heap) "place" = some (some (.ref f6))) (i6 : PySem.W.isFn K (.ref f6) = true)
    (l6 : K.lookup f6 = some ⟨oc6, od6, .func (PySem.W.fnOf "place" "Heap.place" (defArgs s_Heap_place) (defBody s_Heap_place) (defScope s_Heap_place) .none kV6 dc6 pm6 an6 cd6 ct6), sl6⟩) (c6 : PySem.W.codeIn K cd6 "Heap.place" = true) (k6 : PySem.W.keepIn K (.ref f6) = true)
    (a7 : PySem.W.findIn K (.ref C_Heap) "field" = some (some (.ref f7))) (i7 : PySem.W.isFn K (.ref f7) = true)
    (l7 : K.lookup f7 = some ⟨oc7, od7, .func (PySem.W.fnOf "field" "Heap.field" (defArgs s_Heap_field) (defBody s_Heap_field) (defScope s_Heap_field) .none kV7 dc7 pm7 an7 cd7 ct7), sl7⟩) (c7 : PySem.W.codeIn K cd7 "Heap.field" = true) (k7 : PySem.W.keepIn K (.ref f7) = true)
    (a8 : PySem.W.findIn K (.ref C_Heap) "store_field" = some (some (.ref f8))) (i8 : PySem.W.isFn K (.ref f8) = true)
    (l8 : K.lookup f8 = some ⟨oc8, od8, .func (PySem.W.fnOf "store_field" "Heap.store_field" (defArgs s_Heap_store_field) (defBody s_Heap_store_field) (defScope s_Heap_store_field) .none kV8 dc8 pm8 an8 cd8 ct8), sl8⟩) (c8 : PySem.W.codeIn K cd8 "Heap.store_field" = true) (k8 : PySem.W.keepIn K (.ref f8) = true)
    (a9 : PySem.W.nsIn K mainGlobals "_law_mix" = some (some (.ref f9)))
    (l9 : K.lookup f9 = some ⟨oc9, od9, .func (PySem.W.fnOf "_law_mix" "_law_mix" (defArgs s__law_mix) (defBody s__law_mix) (defScope s__law_mix) .none kV9 dc9 pm9 an9 cd9 ct9), sl9⟩) (c9 : PySem.W.codeIn K cd9 "_law_mix" = true) (k9 : PySem.W.keepIn K (.ref f9) = true)
    (a10 : PySem.W.nsIn K mainGlobals "_law_tape" = some (some (.ref f10)))
    (l10 : K.lookup f10 = some ⟨oc10, od10, .func (PySem.W.fnOf "_law_tape" "_law_tape" (defArgs s__law_tape) (defBody s__law_tape) (defScope s__law_tape) .none kV10 dc10 pm10 an10 cd10 ct10), sl10⟩) (c10 : PySem.W.codeIn K cd10 "_law_tape" = true) (k10 : PySem.W.keepIn K (.ref f10) = true)
    (a11 : PySem.W.nsIn K mainGlobals "_law_take" = some (some (.ref f11)))
    (l11 : K.lookup f11 = some ⟨oc11, od11, .func (PySem.W.fnOf "_law_take" "_law_take" (defArgs s__law_take) (defBody s__law_take) (defScope s__law_take) .none kV11 dc11 pm11 an11 cd11 ct11), sl11⟩) (c11 : PySem.W.codeIn K cd11 "_law_take" = true) (k11 : PySem.W.keepIn K (.ref f11) = true)
    (a12 : PySem.W.nsIn K mainGlobals "_law_word" = some (some (.ref f12)))
    (l12 : K.lookup f12 = some ⟨oc12, od12, .func (PySem.W.fnOf "_law_word" "_law_word" (defArgs s__law_word) (defBody s__law_word) (defScope s__law_word) .none kV12 dc12 pm12 an12 cd12 ct12), sl12⟩) (c12 : PySem.W.codeIn K cd12 "_law_word" = true) (k12 : PySem.W.keepIn K (.ref f12) = true)
    (a13 : PySem.W.nsIn K mainGlobals "_law_make" = some (some (.ref f13)))
    (l13 : K.lookup f13 = some ⟨oc13, od13, .func (PySem.W.fnOf "_law_make" "_law_make" (defArgs s__law_make) (defBody s__law_make) (defScope s__law_make) .none kV13 dc13 pm13 an13 cd13 ct13), sl13⟩) (c13 : PySem.W.codeIn K cd13 "_law_make" = true) (k13 : PySem.W.keepIn K (.ref f13) = true)
    (a14 : PySem.W.nsIn K mainGlobals "_law_refused" = some (some (.ref f14)))
    (l14 : K.lookup f14 = some ⟨oc14, od14, .func (PySem.W.fnOf "_law_refused" "_law_refused" (defArgs s__law_refused) (defBody s__law_refused) (defScope s__law_refused) .none kV14 dc14 pm14 an14 cd14 ct14), sl14⟩) (c14 : PySem.W.codeIn K cd14 "_law_refused" = true) (k14 : PySem.W.keepIn K (.ref f14) = true)
    (a15 : PySem.W.nsIn K mainGlobals "_law_look" = some (some (.ref f15)))
    (l15 : K.lookup f15 = some ⟨oc15, od15, .func (PySem.W.fnOf "_law_look" "_law_look" (defArgs s__law_look) (defBody s__law_look) (defScope s__law_look) .none kV15 dc15 pm15 an15 cd15 ct15), sl15⟩) (c15 : PySem.W.codeIn K cd15 "_law_look" = true) (k15 : PySem.W.keepIn K (.ref f15) = true)
    (a16 : PySem.W.nsIn K mainGlobals "law" = some (some (.ref f16)))
    (l16 : K.lookup f16 = some ⟨oc16, od16, .func (PySem.W.fnOf "law" "law" (defArgs s_law) (defBody s_law) (defScope s_law) .none kV16 dc16 pm16 an16 cd16 ct16), sl16⟩) (c16 : PySem.W.codeIn K cd16 "law" = true) (k16 : PySem.W.keepIn K (.ref f16) = true)
    (z_HEADER : PySem.W.nsIn K mainGlobals "HEADER" = some (some (.int 4 t_HEADER)))
    (x_Heap : PySem.W.nsIn K mainGlobals "Heap" = some (some (.ref C_Heap)))
    (pg_Heap : PySem.W.plainGet K C_Heap Str.empty = true) (hd_Heap : PySem.W.hasDictIn K C_Heap = true) (po_Heap : PySem.W.plainOver K C_Heap = true) (sa_Heap : PySem.W.findIn K (.ref C_Heap) "__setattr__" = some (some (.builtin "object.__setattr__"))) (mk_Heap : PySem.W.makesIn K C_Heap = true) (kc_Heap : PySem.W.keepIn K (.ref C_Heap) = true)
    (nf_Heap_cells : PySem.W.findIn K (.ref C_Heap) "cells" = some none)
    (nf_Heap_words : PySem.W.findIn K (.ref C_Heap) "words" = some none)
    (nf_Heap_begins : PySem.W.findIn K (.ref C_Heap) "begins" = some none)
    (yn : PySem.W.specialIn K (.builtin "object.__class__") "__get__" = some (some (.builtin "getset_descriptor.__get__"))) (yt : PySem.W.takesIn K (.builtin "object.__class__") = some true)
    (x_OutOfRoom : PySem.W.nsIn K mainGlobals "OutOfRoom" = some (some (.ref C_OutOfRoom)))
    (xx_OutOfRoom : PySem.W.excIn K C_OutOfRoom [.type "ValueError", .type "Exception", .type "BaseException", .type "object"] "ValueError.__new__" = true) (xk_OutOfRoom : PySem.W.keepIn K (.ref C_OutOfRoom) = true) (xb_OutOfRoom : PySem.W.subIn K (.ref C_OutOfRoom) (.type "BaseException") = some true) (xt_OutOfRoom : PySem.W.typeIn K (.ref C_OutOfRoom) = some (.type "type")) (xs_OutOfRoom : PySem.W.subIn K (.ref C_OutOfRoom) (.ref C_OutOfRoom) = some true)
    (xg_OutOfRoom : PySem.W.findIn K (.ref C_OutOfRoom) "__getattribute__" = some (some (.builtin "BaseException.__getattribute__"))) (xa_OutOfRoom : PySem.W.findIn K (.ref C_OutOfRoom) "__getattr__" = some none) (xd_OutOfRoom : PySem.W.hasDictIn K C_OutOfRoom = true) (xc_OutOfRoom : PySem.W.findIn K (.ref C_OutOfRoom) "__class__" = some (some (.builtin "object.__class__"))) (xm_OutOfRoom : PySem.W.mroIn K C_OutOfRoom (.type "object") = some true)
    (kk_OutOfRoom_ShapewrightError : PySem.W.kitOne K (.ref C_OutOfRoom) (.ref C_ShapewrightError) = some true)
    (kk_OutOfRoom_NoBlock : PySem.W.kitOne K (.ref C_OutOfRoom) (.ref C_NoBlock) = some false)
    (x_NoBlock : PySem.W.nsIn K mainGlobals "NoBlock" = some (some (.ref C_NoBlock)))
    (xx_NoBlock : PySem.W.excIn K C_NoBlock [.type "ValueError", .type "Exception", .type "BaseException", .type "object"] "ValueError.__new__" = true) (xk_NoBlock : PySem.W.keepIn K (.ref C_NoBlock) = true) (xb_NoBlock : PySem.W.subIn K (.ref C_NoBlock) (.type "BaseException") = some true) (xt_NoBlock : PySem.W.typeIn K (.ref C_NoBlock) = some (.type "type")) (xs_NoBlock : PySem.W.subIn K (.ref C_NoBlock) (.ref C_NoBlock) = some true)
    (xg_NoBlock : PySem.W.findIn K (.ref C_NoBlock) "__getattribute__" = some (some (.builtin "BaseException.__getattribute__"))) (xa_NoBlock : PySem.W.findIn K (.ref C_NoBlock) "__getattr__" = some none) (xd_NoBlock : PySem.W.hasDictIn K C_NoBlock = true) (xc_NoBlock : PySem.W.findIn K (.ref C_NoBlock) "__class__" = some (some (.builtin "object.__class__"))) (xm_NoBlock : PySem.W.mroIn K C_NoBlock (.type "object") = some true)
    (kk_NoBlock_ShapewrightError : PySem.W.kitOne K (.ref C_NoBlock) (.ref C_ShapewrightError) = some true)
    (kk_NoBlock_OutOfRoom : PySem.W.kitOne K (.ref C_NoBlock) (.ref C_OutOfRoom) = some false)
    (x_ShapewrightError : PySem.W.nsIn K mainGlobals "ShapewrightError" = some (some (.ref C_ShapewrightError)))
    (xx_ShapewrightError : PySem.W.excIn K C_ShapewrightError [.type "ValueError", .type "Exception", .type "BaseException", .type "object"] "ValueError.__new__" = true) (xk_ShapewrightError : PySem.W.keepIn K (.ref C_ShapewrightError) = true) (xb_ShapewrightError : PySem.W.subIn K (.ref C_ShapewrightError) (.type "BaseException") = some true) (xt_ShapewrightError : PySem.W.typeIn K (.ref C_ShapewrightError) = some (.type "type")) (xs_ShapewrightError : PySem.W.subIn K (.ref C_ShapewrightError) (.ref C_ShapewrightError) = some true)
    (xg_ShapewrightError : PySem.W.findIn K (.ref C_ShapewrightError) "__getattribute__" = some (some (.builtin "BaseException.__getattribute__"))) (xa_ShapewrightError : PySem.W.findIn K (.ref C_ShapewrightError) "__getattr__" = some none) (xd_ShapewrightError : PySem.W.hasDictIn K C_ShapewrightError = true) (xc_ShapewrightError : PySem.W.findIn K (.ref C_ShapewrightError) "__class__" = some (some (.builtin "object.__class__"))) (xm_ShapewrightError : PySem.W.mroIn K C_ShapewrightError (.type "object") = some true)
    (zn_bool : PySem.W.nsIn K mainGlobals "bool" = some none)
    (zn_int : PySem.W.nsIn K mainGlobals "int" = some none)
    (zn_isinstance : PySem.W.nsIn K mainGlobals "isinstance" = some none)
    (zn_len : PySem.W.nsIn K mainGlobals "len" = some none)
    (zn_list : PySem.W.nsIn K mainGlobals "list" = some none)
    (zn_range : PySem.W.nsIn K mainGlobals "range" = some none)
    (zn_tuple : PySem.W.nsIn K mainGlobals "tuple" = some none)
    : ∃ fd : FuncData, (∀ (s : Shared) (v : Value), BindsTo s fd ⟨[v], []⟩ [("script", v)]) ∧ ∀ base : Heap, K.In base → base.Ns mainGlobals mg → FnOk l.prog w K mg base CX0 7 fa fd ["script"] (spLaw K) := by
  have e := hfa.symm.trans (PySem.W.mg_of X G a16)
  cases e
  have F0 := fun_mk (st := s_is_block) l0 c0 k0
  have b0 := F0.binds (ps := ["word"]) fun _ _ _ _ _ _ us hl => match us, hl with | [_], _ => rfl
  have F1 := fun_mk (st := s_Heap___init__) l1 c1 k1
  have b1 := F1.binds (ps := ["self", "cells"]) fun _ _ _ _ _ _ us hl => match us, hl with | [_, _], _ => rfl
  have F2 := fun_mk (st := s_Heap_fits) l2 c2 k2
  have b2 := F2.binds (ps := ["self", "n"]) fun _ _ _ _ _ _ us hl => match us, hl with | [_, _], _ => rfl
  have F3 := fun_mk (st := s_Heap_make) l3 c3 k3
  have b3 := F3.binds (ps := ["self", "kind", "a", "b", "fields"]) fun _ _ _ _ _ _ us hl => match us, hl with | [_, _, _, _, _], _ => rfl
  have F4 := fun_mk (st := s_Heap_address) l4 c4 k4
  have b4 := F4.binds (ps := ["self", "word"]) fun _ _ _ _ _ _ us hl => match us, hl with | [_, _], _ => rfl
  have F5 := fun_mk (st := s_Heap_header) l5 c5 k5
  have b5 := F5.binds (ps := ["self", "word"]) fun _ _ _ _ _ _ us hl => match us, hl with | [_, _], _ => rfl
  have F6 := fun_mk (st := s_Heap_place) l6 c6 k6
  have b6 := F6.binds (ps := ["self", "word", "i"]) fun _ _ _ _ _ _ us hl => match us, hl with | [_, _, _], _ => rfl
  have F7 := fun_mk (st := s_Heap_field) l7 c7 k7
  have b7 := F7.binds (ps := ["self", "word", "i"]) fun _ _ _ _ _ _ us hl => match us, hl with | [_, _, _], _ => rfl
  have F8 := fun_mk (st := s_Heap_store_field) l8 c8 k8
  have b8 := F8.binds (ps := ["self", "word", "i", "value"]) fun _ _ _ _ _ _ us hl => match us, hl with | [_, _, _, _], _ => rfl
  have F9 := fun_mk (st := s__law_mix) l9 c9 k9
  have b9 := F9.binds (ps := ["number"]) fun _ _ _ _ _ _ us hl => match us, hl with | [_], _ => rfl
  have F10 := fun_mk (st := s__law_tape) l10 c10 k10
  have b10 := F10.binds (ps := ["script", "budget"]) fun _ _ _ _ _ _ us hl => match us, hl with | [_, _], _ => rfl
  have F11 := fun_mk (st := s__law_take) l11 c11 k11
  have b11 := F11.binds (ps := ["tape", "many"]) fun _ _ _ _ _ _ us hl => match us, hl with | [_, _], _ => rfl
  have F12 := fun_mk (st := s__law_word) l12 c12 k12
  have b12 := F12.binds (ps := ["tape", "blocks"]) fun _ _ _ _ _ _ us hl => match us, hl with | [_, _], _ => rfl
  have F13 := fun_mk (st := s__law_make) l13 c13 k13
  have b13 := F13.binds (ps := ["tape", "heap", "model", "blocks", "cells"]) fun _ _ _ _ _ _ us hl => match us, hl with | [_, _, _, _, _], _ => rfl
  have F14 := fun_mk (st := s__law_refused) l14 c14 k14
  have b14 := F14.binds (ps := ["heap", "word", "i"]) fun _ _ _ _ _ _ us hl => match us, hl with | [_, _, _], _ => rfl
  have F15 := fun_mk (st := s__law_look) l15 c15 k15
  have b15 := F15.binds (ps := ["tape", "heap", "model", "blocks"]) fun _ _ _ _ _ _ us hl => match us, hl with | [_, _, _, _], _ => rfl
  have F16 := fun_mk (st := s_law) l16 c16 k16
  have b16 := F16.binds (ps := ["script"]) fun _ _ _ _ _ _ us hl => match us, hl with | [_], _ => rfl
  have T : Txt K mg { f_is_block := f0, d_is_block := _, f_Heap___init__ := f1, d_Heap___init__ := _, f_Heap_fits := f2, d_Heap_fits := _, f_Heap_make := f3, d_Heap_make := _, f_Heap_address := f4, d_Heap_address := _, f_Heap_header := f5, d_Heap_header := _, f_Heap_place := f6, d_Heap_place := _, f_Heap_field := f7, d_Heap_field := _, f_Heap_store_field := f8, d_Heap_store_field := _, f__law_mix := f9, d__law_mix := _, f__law_tape := f10, d__law_tape := _, f__law_take := f11, d__law_take := _, f__law_word := f12, d__law_word := _, f__law_make := f13, d__law_make := _, f__law_refused := f14, d__law_refused := _, f__law_look := f15, d__law_look := _, f_law := fa, d_law := _, c_HEADER := t_HEADER, c_Heap := C_Heap, c_OutOfRoom := C_OutOfRoom, c_NoBlock := C_NoBlock, c_ShapewrightError := C_ShapewrightError } := { F_is_block := F0, b_is_block := b0, g_is_block := PySem.W.mg_of X G a0, F_Heap___init__ := F1, b_Heap___init__ := b1, t_Heap___init__ := ⟨a1, i1, k1⟩, F_Heap_fits := F2, b_Heap_fits := b2, t_Heap_fits := ⟨a2, i2, k2⟩, F_Heap_make := F3, b_Heap_make := b3, t_Heap_make := ⟨a3, i3, k3⟩, F_Heap_address := F4, b_Heap_address := b4, t_Heap_address := ⟨a4, i4, k4⟩, F_Heap_header := F5, b_Heap_header := b5, t_Heap_header := ⟨a5, i5, k5⟩, F_Heap_place := F6, b_Heap_place := b6, t_Heap_place := ⟨a6, i6, k6⟩, F_Heap_field := F7, b_Heap_field := b7, t_Heap_field := ⟨a7, i7, k7⟩, F_Heap_store_field := F8, b_Heap_store_field := b8, t_Heap_store_field := ⟨a8, i8, k8⟩, F__law_mix := F9, b__law_mix := b9, g__law_mix := PySem.W.mg_of X G a9, F__law_tape := F10, b__law_tape := b10, g__law_tape := PySem.W.mg_of X G a10, F__law_take := F11, b__law_take := b11, g__law_take := PySem.W.mg_of X G a11, F__law_word := F12, b__law_word := b12, g__law_word := PySem.W.mg_of X G a12, F__law_make := F13, b__law_make := b13, g__law_make := PySem.W.mg_of X G a13, F__law_refused := F14, b__law_refused := b14, g__law_refused := PySem.W.mg_of X G a14, F__law_look := F15, b__law_look := b15, g__law_look := PySem.W.mg_of X G a15, F_law := F16, b_law := b16, g_law := PySem.W.mg_of X G a16, g_HEADER := PySem.W.mg_of X G z_HEADER, g_Heap := PySem.W.mg_of X G x_Heap, cl_Heap := ⟨pg_Heap, hd_Heap, po_Heap, sa_Heap⟩, m_Heap := ⟨mk_Heap, a1, i1, kc_Heap⟩, no_Heap_cells := nf_Heap_cells, no_Heap_words := nf_Heap_words, no_Heap_begins := nf_Heap_begins, g_OutOfRoom := PySem.W.mg_of X G x_OutOfRoom, x_OutOfRoom := xx_OutOfRoom, k_OutOfRoom := xk_OutOfRoom, bs_OutOfRoom := xb_OutOfRoom, ty_OutOfRoom := xt_OutOfRoom, em_OutOfRoom := PySem.W.exm_ref xb_OutOfRoom xd_OutOfRoom xt_OutOfRoom xs_OutOfRoom, ec_OutOfRoom := ⟨xg_OutOfRoom, xa_OutOfRoom, xb_OutOfRoom, xd_OutOfRoom, xc_OutOfRoom, yn, yt, xm_OutOfRoom⟩, kit_OutOfRoom_ShapewrightError := kk_OutOfRoom_ShapewrightError, kit_OutOfRoom_NoBlock := kk_OutOfRoom_NoBlock, g_NoBlock := PySem.W.mg_of X G x_NoBlock, x_NoBlock := xx_NoBlock, k_NoBlock := xk_NoBlock, bs_NoBlock := xb_NoBlock, ty_NoBlock := xt_NoBlock, em_NoBlock := PySem.W.exm_ref xb_NoBlock xd_NoBlock xt_NoBlock xs_NoBlock, ec_NoBlock := ⟨xg_NoBlock, xa_NoBlock, xb_NoBlock, xd_NoBlock, xc_NoBlock, yn, yt, xm_NoBlock⟩, kit_NoBlock_ShapewrightError := kk_NoBlock_ShapewrightError, kit_NoBlock_OutOfRoom := kk_NoBlock_OutOfRoom, g_ShapewrightError := PySem.W.mg_of X G x_ShapewrightError, x_ShapewrightError := xx_ShapewrightError, k_ShapewrightError := xk_ShapewrightError, bs_ShapewrightError := xb_ShapewrightError, ty_ShapewrightError := xt_ShapewrightError, em_ShapewrightError := PySem.W.exm_ref xb_ShapewrightError xd_ShapewrightError xt_ShapewrightError xs_ShapewrightError, ec_ShapewrightError := ⟨xg_ShapewrightError, xa_ShapewrightError, xb_ShapewrightError, xd_ShapewrightError, xc_ShapewrightError, yn, yt, xm_ShapewrightError⟩, n_bool := PySem.W.mg_none_of X G zn_bool, n_int := PySem.W.mg_none_of X G zn_int, n_isinstance := PySem.W.mg_none_of X G zn_isinstance, n_len := PySem.W.mg_none_of X G zn_len, n_list := PySem.W.mg_none_of X G zn_list, n_range := PySem.W.mg_none_of X G zn_range, n_tuple := PySem.W.mg_none_of X G zn_tuple }
  exact ⟨_, fun s v => .of_eq rfl, fun base _ _ => ok_law T⟩
theorem walk {l : PySem.W.OpenLaw} {q : Program} {loose : List Str} {XP : (Str → Option Value) → Heap → Prop} {YP : World → Heap → Prop} {d : DefRec} {K : Params → PySem.W.Frag} (hn : l.most = some 63) (hdf : d.params.defaults = [])
    (hY : ∀ (w : World) (h : Heap), YP w h → (K w.params).In h)
    (F : ∀ (w : World) (mg : Str → Option Value) (fa : Addr) (h : Heap), (K w.params).In h → h.Ns mainGlobals mg → mg d.name = some (.ref fa) →
      ∃ fd : FuncData, (∀ (s : Shared) (u : Value), BindsTo s fd ⟨[u], []⟩ [("script", u)]) ∧ ∀ base : Heap, (K w.params).In base → base.Ns mainGlobals mg → FnOk l.prog w (K w.params) mg base CX0 7 fa fd ["script"] (spLaw (K w.params))) :
    PySem.W.WalkO q loose XP YP l.row.toRowW d [] (fun f vs => PySem.call f vs) :=
  L2.walk_of (n := 63) (k := 7) (x := "script") (CX := fun _ => CX0) (sp := fun w => spLaw (K w.params)) hn (by decide) hdf ⟨rfl, by decide, by decide⟩ hY F (fun _ _ a ns hl _ hS => ⟨a, ns, rfl, hS, hl, fun _ => rfl⟩) fun _ _ _ _ _ z => z
end K72
open PySem PySem.W PyProof.Rows in
set_option maxRecDepth 100000 in
set_option maxHeartbeats 0 in
theorem PySem.Challenge.cw_shapewright_k72_blocks_of_the_heap_holds : PySem.Challenge.rw_shapewright_k72_blocks_of_the_heap.Holds := by
  w_on; o_law; k_head; (case hw => w_witness2)
  k_fill
  refine K72.walk (l := PySem.Challenge.rw_shapewright_k72_blocks_of_the_heap) rfl rfl (fun w h Y => PySem.W.kIn_of Y) ?F
  case F =>
    intro w mg fa h KX G hmg
    refine' K72.all_mk KX G hmg ?a0 ?l0 ?c0 ?k0 ?a1 ?i1 ?l1 ?c1 ?k1 ?a2 ?i2 ?l2 ?c2 ?k2 ?a3 ?i3 ?l3 ?c3 ?k3 ?a4 ?i4 ?l4 ?c4 ?k4 ?a5 ?i5 ?l5 ?c5 ?k5 ?a6 ?i6 ?l6 ?c6 ?k6 ?a7 ?i7 ?l7 ?c7 ?k7 ?a8 ?i8 ?l8 ?c8 ?k8 ?a9 ?l9 ?c9 ?k9 ?a10 ?l10 ?c10 ?k10 ?a11 ?l11 ?c11 ?k11 ?a12 ?l12 ?c12 ?k12 ?a13 ?l13 ?c13 ?k13 ?a14 ?l14 ?c14 ?k14 ?a15 ?l15 ?c15 ?k15 ?a16 ?l16 ?c16 ?k16 ?z_HEADER ?x_Heap ?pg_Heap ?hd_Heap ?po_Heap ?sa_Heap ?mk_Heap ?kc_Heap ?nf_Heap_cells ?nf_Heap_words ?nf_Heap_begins ?yn ?yt ?x_OutOfRoom ?xx_OutOfRoom ?xk_OutOfRoom ?xb_OutOfRoom ?xt_OutOfRoom ?xs_OutOfRoom ?xg_OutOfRoom ?xa_OutOfRoom ?xd_OutOfRoom ?xc_OutOfRoom ?xm_OutOfRoom ?kk_OutOfRoom_ShapewrightError ?kk_OutOfRoom_NoBlock ?x_NoBlock ?xx_NoBlock ?xk_NoBlock ?xb_NoBlock ?xt_NoBlock ?xs_NoBlock ?xg_NoBlock ?xa_NoBlock ?xd_NoBlock ?xc_NoBlock ?xm_NoBlock ?kk_NoBlock_ShapewrightError ?kk_NoBlock_OutOfRoom ?x_ShapewrightError ?xx_ShapewrightError ?xk_ShapewrightError ?xb_ShapewrightError ?xt_ShapewrightError ?xs_ShapewrightError ?xg_ShapewrightError ?xa_ShapewrightError ?xd_ShapewrightError ?xc_ShapewrightError ?xm_ShapewrightError ?zn_bool ?zn_int ?zn_isinstance ?zn_len ?zn_list ?zn_range ?zn_tuple
    (case x_Heap => k_is)
    (case x_OutOfRoom => k_is)
    (case x_NoBlock => k_is)
    (case x_ShapewrightError => k_is)
    (case a0 => k_is)
    (case l0 => k_is)
    (case c0 => k_is)
    (case k0 => k_is)
    (case a1 => k_is)
    (case i1 => k_is)
    (case l1 => k_is)
    (case c1 => k_is)
    (case k1 => k_is)
    (case a2 => k_is)
    (case i2 => k_is)
    (case l2 => k_is)
    (case c2 => k_is)
    (case k2 => k_is)
    (case a3 => k_is)
    (case i3 => k_is)
    (case l3 => k_is)
    (case c3 => k_is)
    (case k3 => k_is)
    (case a4 => k_is)
    (case i4 => k_is)
    (case l4 => k_is)
    (case c4 => k_is)
    (case k4 => k_is)
    (case a5 => k_is)
    (case i5 => k_is)
    (case l5 => k_is)
    (case c5 => k_is)
    (case k5 => k_is)
    (case a6 => k_is)
    (case i6 => k_is)
    (case l6 => k_is)
    (case c6 => k_is)
    (case k6 => k_is)
    (case a7 => k_is)
    (case i7 => k_is)
    (case l7 => k_is)
    (case c7 => k_is)
    (case k7 => k_is)
    (case a8 => k_is)
    (case i8 => k_is)
    (case l8 => k_is)
    (case c8 => k_is)
    (case k8 => k_is)
    (case a9 => k_is)
    (case l9 => k_is)
    (case c9 => k_is)
    (case k9 => k_is)
    (case a10 => k_is)
    (case l10 => k_is)
    (case c10 => k_is)
    (case k10 => k_is)
    (case a11 => k_is)
    (case l11 => k_is)
    (case c11 => k_is)
    (case k11 => k_is)
    (case a12 => k_is)
    (case l12 => k_is)
    (case c12 => k_is)
    (case k12 => k_is)
    (case a13 => k_is)
    (case l13 => k_is)
    (case c13 => k_is)
    (case k13 => k_is)
    (case a14 => k_is)
    (case l14 => k_is)
    (case c14 => k_is)
    (case k14 => k_is)
    (case a15 => k_is)
    (case l15 => k_is)
    (case c15 => k_is)
    (case k15 => k_is)
    (case a16 => k_is)
    (case l16 => k_is)
    (case c16 => k_is)
    (case k16 => k_is)
    (case z_HEADER => k_is)
    (case pg_Heap => k_is)
    (case hd_Heap => k_is)
    (case po_Heap => k_is)
    (case sa_Heap => k_is)
    (case mk_Heap => k_is)
    (case kc_Heap => k_is)
    (case nf_Heap_cells => k_is)
    (case nf_Heap_words => k_is)
    (case nf_Heap_begins => k_is)
    (case yn => k_is)
    (case yt => k_is)
    (case xx_OutOfRoom => k_exc)
    (case xk_OutOfRoom => k_is)
    (case xb_OutOfRoom => k_is)
    (case xt_OutOfRoom => k_is)
    (case xs_OutOfRoom => k_is)
    (case xg_OutOfRoom => k_is)
    (case xa_OutOfRoom => k_is)
    (case xd_OutOfRoom => k_is)
    (case xc_OutOfRoom => k_is)
    (case xm_OutOfRoom => k_is)
    (case kk_OutOfRoom_ShapewrightError => kit_is)
    (case kk_OutOfRoom_NoBlock => kit_is)
    (case xx_NoBlock => k_exc)
    (case xk_NoBlock => k_is)
    (case xb_NoBlock => k_is)
    (case xt_NoBlock => k_is)
    (case xs_NoBlock => k_is)
    (case xg_NoBlock => k_is)
    (case xa_NoBlock => k_is)
    (case xd_NoBlock => k_is)
    (case xc_NoBlock => k_is)
    (case xm_NoBlock => k_is)
    (case kk_NoBlock_ShapewrightError => kit_is)
    (case kk_NoBlock_OutOfRoom => kit_is)
    (case xx_ShapewrightError => k_exc)
    (case xk_ShapewrightError => k_is)
    (case xb_ShapewrightError => k_is)
    (case xt_ShapewrightError => k_is)
    (case xs_ShapewrightError => k_is)
    (case xg_ShapewrightError => k_is)
    (case xa_ShapewrightError => k_is)
    (case xd_ShapewrightError => k_is)
    (case xc_ShapewrightError => k_is)
    (case xm_ShapewrightError => k_is)
    (case zn_bool => k_is)
    (case zn_int => k_is)
    (case zn_isinstance => k_is)
    (case zn_len => k_is)
    (case zn_list => k_is)
    (case zn_range => k_is)
    (case zn_tuple => k_is)
