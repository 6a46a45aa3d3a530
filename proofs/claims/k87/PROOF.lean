import PyProof.Rows.All
import Wide.All
import OpenK.AllK
import Wide.FinOn
import HandS.ForMost
import HandS.CallSlots
import HandS.Wide
import HandS.IsInst
import HandS.Deep
import HandS.Evl
import HandS.Zip
import HandS.TupAny
import HandS.Style
import HandS.Iter
import HandS.Rev
import PySem.Challenge.RW_shapewright_k87_reports
set_option Elab.async false
set_option maxRecDepth 100000
set_option linter.all false
set_option maxHeartbeats 4000000
/-! trees of tuples: what a value stands for, whatever else the heap does -/
namespace GD
open PySem L2
theorem iteN {b : Bool} {A B : Prop} (h : b = false) (q : B) : if b = true then A else B := by
  subst h
  rw [if_neg (by decide)]
  exact q
theorem iteY {b : Bool} {A B : Prop} (h : b = true) (q : A) : if b = true then A else B := by
  rw [if_pos h]
  exact q
section
variable {K : PySem.W.Frag}
mutual
inductive Rp (K : PySem.W.Frag) (H : Hp) : V → PyData → Prop
  | non : Rp K H .non .none
  | bl (b : Bool) : Rp K H (.bl b) (.bool b)
  | int (i : Int) : Rp K H (.int i) (.int i)
  | str (x : Str) : PyData.strOk x = true → Rp K H (.str x) (.str x)
  | tup {a : Addr} {xs : List V} {ds : List PyData} : SqT K H a xs → RpAll K H xs ds → Rp K H (.ref a) (.tuple ds)
inductive RpAll (K : PySem.W.Frag) (H : Hp) : List V → List PyData → Prop
  | nil : RpAll K H [] []
  | cons {v : V} {vs : List V} {d : PyData} {ds : List PyData} : Rp K H v d → RpAll K H vs ds → RpAll K H (v :: vs) (d :: ds)
end
/-- the tuples stay -/
def KT (H H' : Hp) : Prop := ∀ a xs, Rd H a (.tup xs) → Rd H' a (.tup xs)
theorem KT.refl {H : Hp} : KT H H := fun _ _ h => h
theorem KT.trans {H H1 H2 : Hp} (h : KT H H1) (k : KT H1 H2) : KT H H2 := fun a xs q => k a xs (h a xs q)
theorem KT.sqt {H H' : Hp} (k : KT H H') {a : Addr} {xs : List V} (h : SqT K H a xs) : SqT K H' a xs := h.imp (k a xs) id
mutual
theorem Rp.keep {H H' : Hp} (k : KT H H') : ∀ (d : PyData) (v : V), Rp K H v d → Rp K H' v d
  | .none, _, h => by cases h; exact .non
  | .bool _, _, h => by cases h; exact .bl _
  | .int _, _, h => by cases h; exact .int _
  | .str _, _, h => by
    cases h with
    | str x hx => exact .str _ hx
  | .list _, _, h => by cases h
  | .tuple ds, _, h => by
    cases h with
    | tup s r => exact .tup (k.sqt s) (RpAll.keep k ds _ r)
  | .dict _, _, h => by cases h
theorem RpAll.keep {H H' : Hp} (k : KT H H') : ∀ (ds : List PyData) (vs : List V), RpAll K H vs ds → RpAll K H' vs ds
  | [], _, h => by cases h; exact .nil
  | d :: ds, _, h => by
    cases h with
    | cons a r => exact .cons (Rp.keep k d _ a) (RpAll.keep k ds _ r)
end
theorem Rp.on {H H' : Hp} {d : PyData} {v : V} (h : Rp K H v d) (k : KT H H') : Rp K H' v d := Rp.keep k d v h
theorem RpAll.on {H H' : Hp} {ds : List PyData} {vs : List V} (h : RpAll K H vs ds) (k : KT H H') : RpAll K H' vs ds := RpAll.keep k ds vs h
mutual
theorem Rp.dp' {H : Hp} : ∀ (d : PyData) (v : V), Rp K H v d → Dp K H v d
  | .none, _, h => by cases h; exact .non
  | .bool _, _, h => by cases h; exact .bl _
  | .int _, _, h => by cases h; exact .int _
  | .str _, _, h => by cases h; exact .str _
  | .list _, _, h => by cases h
  | .tuple ds, _, h => by
    cases h with
    | tup s r => exact .tup s (RpAll.dp' ds _ r)
  | .dict _, _, h => by cases h
theorem RpAll.dp' {H : Hp} : ∀ (ds : List PyData) (vs : List V), RpAll K H vs ds → DpAll K H vs ds
  | [], _, h => by cases h; exact .nil
  | d :: ds, _, h => by
    cases h with
    | cons a r => exact .cons (Rp.dp' d _ a) (RpAll.dp' ds _ r)
end
theorem Rp.dp {H : Hp} {d : PyData} {v : V} (h : Rp K H v d) : Dp K H v d := Rp.dp' d v h
mutual
theorem Rp.lay' {H : Hp} : ∀ (d : PyData) (v : V), Rp K H v d → d.canLay0 = true
  | .none, _, h => by simp [PyData.canLay0]
  | .bool _, _, h => by simp [PyData.canLay0]
  | .int _, _, h => by simp [PyData.canLay0]
  | .str _, _, h => by
    cases h with
    | str x hx => simpa [PyData.canLay0] using hx
  | .list _, _, h => by cases h
  | .tuple ds, _, h => by
    cases h with
    | tup s r => simpa [PyData.canLay0] using RpAll.lay' ds _ r
  | .dict _, _, h => by cases h
theorem RpAll.lay' {H : Hp} : ∀ (ds : List PyData) (vs : List V), RpAll K H vs ds → PyData.canLayAll0 ds = true
  | [], _, h => by simp [PyData.canLayAll0]
  | d :: ds, _, h => by
    cases h with
    | cons a r => simp [PyData.canLayAll0, Rp.lay' d _ a, RpAll.lay' ds _ r]
end
theorem RpAll.length {H : Hp} : ∀ {vs : List V} {ds : List PyData}, RpAll K H vs ds → vs.length = ds.length
  | _, _, .nil => rfl
  | _, _, .cons _ r => by simp [RpAll.length r]
theorem RpAll.get {H : Hp} : ∀ {vs : List V} {ds : List PyData} {i : Nat} {d : PyData}, RpAll K H vs ds → ds[i]? = some d → ∃ v, vs[i]? = some v ∧ Rp K H v d
  | _, _, _, _, .nil, e => by simp at e
  | _, _, 0, _, .cons h _, e => by simp at e; subst e; exact ⟨_, rfl, h⟩
  | _, _, i + 1, _, .cons _ r, e => by
    obtain ⟨v, e1, h⟩ := r.get (i := i) (by simpa using e)
    exact ⟨v, by simpa using e1, h⟩
theorem RpAll.getV {H : Hp} : ∀ {vs : List V} {ds : List PyData} {i : Nat} {v : V}, RpAll K H vs ds → vs[i]? = some v → ∃ d, ds[i]? = some d ∧ Rp K H v d
  | _, _, _, _, .nil, e => by simp at e
  | _, _, 0, _, .cons h _, e => by simp at e; subst e; exact ⟨_, rfl, h⟩
  | _, _, i + 1, _, .cons _ r, e => by
    obtain ⟨v, e1, h⟩ := r.getV (i := i) (by simpa using e)
    exact ⟨v, by simpa using e1, h⟩
theorem RpAll.app {H : Hp} : ∀ {vs ws : List V} {ds es : List PyData}, RpAll K H vs ds → RpAll K H ws es → RpAll K H (vs ++ ws) (ds ++ es)
  | _, _, _, _, .nil, r => r
  | _, _, _, _, .cons h t, r => .cons h (t.app r)
theorem RpAll.take {H : Hp} : ∀ {vs : List V} {ds : List PyData} (n : Nat), RpAll K H vs ds → RpAll K H (vs.take n) (ds.take n)
  | _, _, 0, _ => by simp; exact .nil
  | _, _, n + 1, .nil => by simp; exact .nil
  | _, _, n + 1, .cons h t => by simp; exact .cons h (t.take n)
theorem RpAll.drop {H : Hp} : ∀ {vs : List V} {ds : List PyData} (n : Nat), RpAll K H vs ds → RpAll K H (vs.drop n) (ds.drop n)
  | _, _, 0, r => by simpa using r
  | _, _, n + 1, .nil => by simp; exact .nil
  | _, _, n + 1, .cons h t => by simpa using t.drop n
theorem RpAll.set {H : Hp} : ∀ {vs : List V} {ds : List PyData} (n : Nat) {v : V} {d : PyData}, RpAll K H vs ds → Rp K H v d → RpAll K H (vs.set n v) (ds.set n d)
  | _, _, _, _, _, .nil, _ => by simp; exact .nil
  | _, _, 0, _, _, .cons _ t, k => by simp; exact .cons k t
  | _, _, n + 1, _, _, .cons h t, k => by simp; exact .cons h (t.set n k)
/-! ### readings -/
theorem Rp.tup_inv {H : Hp} {v : V} {ds : List PyData} (h : Rp K H v (.tuple ds)) : ∃ a xs, v = .ref a ∧ SqT K H a xs ∧ RpAll K H xs ds := by
  cases h with
  | tup s r => exact ⟨_, _, rfl, s, r⟩
theorem Rp.str_inv {H : Hp} {v : V} {x : Str} (h : Rp K H v (.str x)) : v = .str x := by cases h; rfl
theorem Rp.int_inv {H : Hp} {v : V} {x : Int} (h : Rp K H v (.int x)) : v = .int x := by cases h; rfl
theorem Rp.non_inv {H : Hp} {v : V} (h : Rp K H v .none) : v = .non := by cases h; rfl
theorem Rp.bl_inv {H : Hp} {v : V} {b : Bool} (h : Rp K H v (.bool b)) : v = .bl b := by cases h; rfl
theorem RpAll.nil_inv {H : Hp} {vs : List V} (h : RpAll K H vs []) : vs = [] := by cases h; rfl
theorem RpAll.cons_inv {H : Hp} {vs : List V} {d : PyData} {ds : List PyData} (h : RpAll K H vs (d :: ds)) : ∃ v ws, vs = v :: ws ∧ Rp K H v d ∧ RpAll K H ws ds := by
  cases h with
  | cons a r => exact ⟨_, _, rfl, a, r⟩
theorem Rp.mk {H : Hp} {a : Addr} {xs : List V} {ds : List PyData} (s : H a = some (.tup xs)) (r : RpAll K H xs ds) : Rp K H (.ref a) (.tuple ds) := .tup (.inl (Rd.of s)) r
theorem Rp.flat {H : Hp} {d : PyData} {a : Addr} (h : Rp K H (.ref a) d) : ∃ ds, d = .tuple ds := by
  cases h with
  | tup _ _ => exact ⟨_, rfl⟩
theorem at0 {x : V} {ws : List V} : atI (x :: ws) 0 = some x := atI_nat (j := 0) rfl
theorem at1 {x y : V} {ws : List V} : atI (x :: y :: ws) 1 = some y := atI_nat (j := 1) rfl
theorem at2 {x y z : V} {ws : List V} : atI (x :: y :: z :: ws) 2 = some z := atI_nat (j := 2) rfl
theorem at3 {x y z u : V} {ws : List V} : atI (x :: y :: z :: u :: ws) 3 = some u := atI_nat (j := 3) rfl
theorem small_lt {n : Nat} (h : n < 100000) : n < sizeLine := Nat.lt_of_lt_of_le h (by decide)
theorem small_le {n : Nat} (h : n ≤ 100000) : n ≤ sizeLine := Nat.le_trans h (by decide)
/-! ### what stays -/
theorem KT.same {H H' : Hp} (h : ∀ a o, H a = some o → H' a = some o) : KT H H' := fun a xs q => by
  rcases q with q | ⟨o, q⟩
  · exact .inl (h _ _ q)
  · exact .inr ⟨o, h _ _ q⟩
theorem KT.upd_new {H : Hp} {p : Addr} {o : HO} (h : H p = none) : KT H (upd H p o) := KT.same fun a u e => by
  rw [upd_ne (ne_of_none e h)]
  exact e
/-- no tuple -/
def NT (H : Hp) (p : Addr) : Prop := ∀ xs, ¬ Rd H p (.tup xs)
theorem NT.lst {H : Hp} {p : Addr} {l : List V} (h : H p = some (.lst l)) : NT H p := fun xs q => by
  rcases q with q | ⟨o, q⟩ <;> rw [h] at q <;> cases q
theorem NT.dk {H : Hp} {p : Addr} {l : List (Key × V)} (h : H p = some (.dK l)) : NT H p := fun xs q => by
  rcases q with q | ⟨o, q⟩ <;> rw [h] at q <;> cases q
theorem KT.upd_lst {H : Hp} {p : Addr} {o : HO} (h : NT H p) : KT H (upd H p o) := fun a xs q => by
  have n : a ≠ p := fun z => by
    rw [z] at q
    exact h xs q
  unfold Rd
  rw [upd_ne n]
  exact q
/-! ### constants of the module -/
def rdK (K : PySem.W.Frag) : Nat → Value → Option PyData
  | 0, _ => none
  | n + 1, v => match v with
    | .none => some .none
    | .bool b => some (.bool b)
    | .int i _ => some (.int i)
    | .str x _ => if PyData.strOk x = true then some (.str x) else none
    | .ref a => match K.lookup a with
      | some ⟨.type "tuple", _, .seq its _, _⟩ => if its.size ≤ sizeLine then (its.toList.mapM (rdK K n)).map .tuple else none
      | _ => none
    | _ => none
theorem rdAll {n : Nat} (ih : ∀ v d, rdK K n v = some d → ∃ x, RelV x v ∧ ∀ H, Rp K H x d) : ∀ (us : List Value) (ds : List PyData), us.mapM (rdK K n) = some ds → ∃ xs, Vals xs us ∧ ∀ H, RpAll K H xs ds
  | [], ds, e => by
    simp at e
    subst e
    exact ⟨[], .nil, fun _ => .nil⟩
  | u :: us, ds, e => by
    rw [List.mapM_cons] at e
    cases e1 : rdK K n u with
    | none => rw [e1] at e; cases e
    | some d =>
      rw [e1] at e
      cases e2 : us.mapM (rdK K n) with
      | none => simp [e2] at e
      | some ds' =>
        simp [e2] at e
        subst e
        obtain ⟨x, r, k⟩ := ih _ _ e1
        obtain ⟨xs, rs, ks⟩ := rdAll ih us ds' e2
        exact ⟨x :: xs, .cons r rs, fun H => .cons (k H) (ks H)⟩
theorem rdK_ok : ∀ (n : Nat) (v : Value) (d : PyData), rdK K n v = some d → ∃ x, RelV x v ∧ ∀ H, Rp K H x d
  | 0, _, _, e => by cases e
  | n + 1, v, d, e => by
    unfold rdK at e
    split at e
    · cases e; exact ⟨.non, rfl, fun _ => .non⟩
    · cases e; exact ⟨.bl _, rfl, fun _ => .bl _⟩
    · cases e; exact ⟨.int _, ⟨_, rfl⟩, fun _ => .int _⟩
    · split at e
      · rename_i h
        cases e
        exact ⟨.str _, ⟨_, rfl⟩, fun _ => .str _ h⟩
      · cases e
    · rename_i a
      split at e
      · rename_i dd its nn sl hl
        split at e
        · rename_i hs
          cases e1 : its.toList.mapM (rdK K n) with
          | none => rw [e1] at e; cases e
          | some ds =>
            rw [e1] at e
            cases e
            obtain ⟨xs, rs, ks⟩ := rdAll (rdK_ok n) _ _ e1
            exact ⟨.ref a, rfl, fun H => .tup (.inr ⟨_, its, nn, hl, rfl, rfl, hs, rs⟩) (ks H)⟩
        · cases e
      · cases e
    · cases e
theorem rdK_ref {n : Nat} {a : Addr} {d : PyData} (e : rdK K n (.ref a) = some d) (H : Hp) : Rp K H (.ref a) d := by
  obtain ⟨x, r, k⟩ := rdK_ok n _ d e
  cases x <;> first
    | (cases r; exact k H)
    | (cases r; done)
    | (obtain ⟨t, r⟩ := r; cases r)
end
/-! ### == where one side is small -/
section
variable {X : Cx}
/-- x == y, y a small datum -/
def rEqS (K : PySem.W.Frag) : R2 := fun x y H Q => ∃ d e, Rp K H x d ∧ Rp K H y e ∧ e.depth ≤ 60 ∧ Q (.bl (PyData.eqv d e)) H
def rNeS (K : PySem.W.Frag) : R2 := fun x y H Q => ∃ d e, Rp K H x d ∧ Rp K H y e ∧ e.depth ≤ 60 ∧ Q (.bl (!PyData.eqv d e)) H
theorem op_eqS (hu : X.A.units + 64 < cLine) : OpR X (compareOp .Eq) (rEqS X.K) := by
  intro pins s σ H x y v u Q I rx ry h
  obtain ⟨d, e, hd, he, hs, q⟩ := h
  obtain ⟨as, r1⟩ := Dp.reads I d x v hd.dp rx
  obtain ⟨bs, r2⟩ := Dp.reads I e y u he.dp ry
  exact SeqAt.compareEq_reads r1 r2 (Rp.lay' _ _ hd) (Rp.lay' _ _ he) (by have := Nat.min_le_right d.depth e.depth; omega) ⟨.bl _, H, I, rfl, q⟩
end
end GD

set_option Elab.async false
set_option maxRecDepth 100000
set_option linter.all false
set_option maxHeartbeats 4000000
/-! tuples of data: sums and slices -/
namespace GD
open PySem L2
section
variable {K : PySem.W.Frag} {H : Hp} {Q : VK}
theorem catA_rp {x y : V} {ds es : List PyData} (hx : Rp K H x (.tuple ds)) (hy : Rp K H y (.tuple es)) (hl : ds.length + es.length ≤ sizeLine)
    (q : ∀ (r : V) (H' : Hp), (∀ a o, H a = some o → H' a = some o) → Rp K H' r (.tuple (ds ++ es)) → Q r H') : rCatA K x y H Q := by
  have hx0 := hx
  have hy0 := hy
  obtain ⟨a, xs, rfl, sx, rx⟩ := hx.tup_inv
  obtain ⟨b, ys, rfl, sy, ry⟩ := hy.tup_inv
  refine ⟨a, b, xs, ys, rfl, rfl, sx, sy, by rw [rx.length, ry.length]; exact hl, fun e => ?_, fun _ e => ?_, fun _ _ p hp => ?_⟩
  · subst e
    have : ds = [] := List.eq_nil_of_length_eq_zero (by rw [← rx.length]; rfl)
    subst this
    exact q _ H (fun _ _ e => e) (by simpa using hy0)
  · subst e
    have : es = [] := List.eq_nil_of_length_eq_zero (by rw [← ry.length]; rfl)
    subst this
    exact q _ H (fun _ _ e => e) (by simpa using hx0)
  · have kt := KT.upd_new (o := .tup (xs ++ ys)) hp
    refine q _ _ (fun c o e => by rw [upd_ne (ne_of_none e hp)]; exact e) (Rp.mk upd_same ((rx.on kt).app (ry.on kt)))
theorem slA_rp {x : V} {ds : List PyData} {lo hi : Option Int} (hx : Rp K H x (.tuple ds))
    (q : ∀ (r : V) (H' : Hp), (∀ a o, H a = some o → H' a = some o) → Rp K H' r (.tuple ((ds.drop (HT.sIx ds.length 0 lo)).take (HT.sIx ds.length ds.length hi - HT.sIx ds.length 0 lo))) → Q r H') : rSlA K x lo hi H Q := by
  have hx0 := hx
  obtain ⟨a, xs, rfl, sx, rx⟩ := hx.tup_inv
  have el := rx.length
  refine ⟨a, xs, rfl, sx, fun h => ?_, fun _ p hp => ?_⟩
  · refine q _ H (fun _ _ e => e) ?_
    rw [← el, h.1, h.2, List.drop_zero, Nat.sub_zero, el, List.take_length]
    exact hx0
  · have kt := KT.upd_new (o := .tup (cutV xs lo hi)) hp
    refine q _ _ (fun c o e => by rw [upd_ne (ne_of_none e hp)]; exact e) (Rp.mk upd_same ?_)
    have := ((rx.drop (HT.sIx xs.length 0 lo)).take (HT.sIx xs.length xs.length hi - HT.sIx xs.length 0 lo)).on kt
    rw [el] at this
    unfold cutV at this ⊢
    rw [el] at this ⊢
    exact this
theorem sIx_none (n d : Nat) : HT.sIx n d none = d := rfl
theorem sIx_nat {n d i : Nat} (h : i ≤ n) : HT.sIx n d (some (i : Int)) = i := by
  rw [HT.sIx_nat]
  omega
theorem slA_take {x : V} {ds : List PyData} {j : Int} (i : Nat) (e : j = (i : Int)) (hi : i ≤ ds.length) (hx : Rp K H x (.tuple ds))
    (q : ∀ (r : V) (H' : Hp), (∀ a o, H a = some o → H' a = some o) → Rp K H' r (.tuple (ds.take i)) → Q r H') : rSlA K x none (some j) H Q := by
  subst e
  refine slA_rp hx fun r H' s h => q r H' s ?_
  rw [sIx_none, sIx_nat hi, List.drop_zero, Nat.sub_zero] at h
  exact h
theorem slA_drop {x : V} {ds : List PyData} {j : Int} (i : Nat) (e : j = (i : Int)) (hi : i ≤ ds.length) (hx : Rp K H x (.tuple ds))
    (q : ∀ (r : V) (H' : Hp), (∀ a o, H a = some o → H' a = some o) → Rp K H' r (.tuple (ds.drop i)) → Q r H') : rSlA K x (some j) none H Q := by
  subst e
  refine slA_rp hx fun r H' s h => q r H' s ?_
  rw [sIx_none, sIx_nat hi, List.take_of_length_le (by rw [List.length_drop]; omega)] at h
  exact h
/-- the items of a list, by their data -/
theorem Rp.at_ {v : V} {ds : List PyData} {i : Nat} {d : PyData} (h : Rp K H v (.tuple ds)) (e : ds[i]? = some d) : ∃ a xs x, v = .ref a ∧ SqT K H a xs ∧ xs[i]? = some x ∧ Rp K H x d := by
  obtain ⟨a, xs, rfl, s, r⟩ := h.tup_inv
  obtain ⟨x, ex, rx⟩ := r.get e
  exact ⟨a, xs, x, rfl, s, ex, rx⟩
end
end GD

set_option Elab.async false
set_option maxRecDepth 100000
set_option linter.all false
set_option maxHeartbeats 4000000
/-! shapes, values, entries as data; what agreement is -/
namespace AG
open PySem L2 GD
inductive Sh
  | v (n : Int) | c (s : Int) (as : List Sh) | t (ps : List Sh) | f (a b : Sh)
mutual
def Sh.d : Sh → PyData
  | .v n => .tuple [.str "v", .int n]
  | .c s as => .tuple [.str "c", .int s, .tuple (Sh.ds as)]
  | .t ps => .tuple [.str "t", .tuple (Sh.ds ps)]
  | .f a b => .tuple [.str "f", a.d, b.d]
def Sh.ds : List Sh → List PyData
  | [] => []
  | a :: r => a.d :: Sh.ds r
end
theorem ds_map : ∀ l : List Sh, Sh.ds l = l.map Sh.d
  | [] => by simp [Sh.ds]
  | a :: r => by simp [Sh.ds, ds_map r]
theorem ds_len (l : List Sh) : (Sh.ds l).length = l.length := by rw [ds_map, List.length_map]
def Sh.parts : Sh → List Sh
  | .v _ => []
  | .c _ l => l
  | .t l => l
  | .f a b => [a, b]
def Sh.isV : Sh → Bool
  | .v _ => true
  | _ => false
def Sh.withP : Sh → List Sh → Sh
  | .v n, _ => .v n
  | .c s _, l => .c s l
  | .t _, l => .t l
  | .f _ _, a :: b :: _ => .f a b
  | .f a b, _ => .f a b
def pick (as : List Sh) (n : Int) : Option Sh := if 0 ≤ n then as[n.toNat]? else none
mutual
def repl (as : List Sh) : Sh → Sh
  | .v n => (pick as n).getD (.v n)
  | .c s l => .c s (repls as l)
  | .t l => .t (repls as l)
  | .f a b => .f (repl as a) (repl as b)
def repls (as : List Sh) : List Sh → List Sh
  | [] => []
  | a :: r => repl as a :: repls as r
end
theorem repls_map (as : List Sh) : ∀ l : List Sh, repls as l = l.map (repl as)
  | [] => by simp [repls]
  | a :: r => by simp [repls, repls_map as r]
theorem repl_parts (as : List Sh) {s : Sh} (h : s.isV = false) : repl as s = s.withP (repls as s.parts) := by
  cases s with
  | v n => cases h
  | c s l => simp [repl, Sh.withP, Sh.parts]
  | t l => simp [repl, Sh.withP, Sh.parts]
  | f a b => simp [repl, repls, Sh.withP, Sh.parts]
mutual
def Sh.dep : Sh → Nat
  | .v _ => 1
  | .c _ l => 1 + l.length + Sh.deps l
  | .t l => 1 + l.length + Sh.deps l
  | .f a b => 1 + Nat.max a.dep b.dep
def Sh.deps : List Sh → Nat
  | [] => 0
  | a :: r => Nat.max a.dep (Sh.deps r)
end
theorem deps_mem : ∀ {l : List Sh} {a : Sh}, a ∈ l → a.dep ≤ Sh.deps l
  | b :: r, a, h => by
    simp only [Sh.deps]
    rcases List.mem_cons.mp h with h | h
    · subst h; exact Nat.le_max_left _ _
    · exact Nat.le_trans (deps_mem h) (Nat.le_max_right _ _)
theorem parts_dep {s a : Sh} (h : a ∈ s.parts) : a.dep < s.dep := by
  cases s with
  | v n => cases h
  | c s l => have := deps_mem (show a ∈ l from h); simp only [Sh.dep]; omega
  | t l => have := deps_mem (show a ∈ l from h); simp only [Sh.dep]; omega
  | f x y =>
    have h1 : x.dep ≤ Nat.max x.dep y.dep := Nat.le_max_left x.dep y.dep
    have h2 : y.dep ≤ Nat.max x.dep y.dep := Nat.le_max_right x.dep y.dep
    simp only [Sh.dep]
    have h' : a = x ∨ a = y := by simpa [Sh.parts] using h
    generalize Nat.max x.dep y.dep = m at h1 h2 ⊢
    rcases h' with h | h
    · rw [h]; omega
    · rw [h]; omega
theorem parts_len (s : Sh) : s.parts.length ≤ s.dep + 1 := by
  cases s with
  | v n => simp [Sh.parts]
  | c s l => simp only [Sh.parts, Sh.dep]; omega
  | t l => simp only [Sh.parts, Sh.dep]; omega
  | f a b => simp only [Sh.parts, Sh.dep, List.length_cons, List.length_nil]; omega
/-! ### values -/
inductive Vl
  | int (i : Int) | tup (vs : List Vl) | con0 (i : Int) (n : Str) | con1 (i : Int) (n : Str) (a : Vl) | ref (i : Int) | oth (g : Str) (r : List PyData)
mutual
def Vl.d : Vl → PyData
  | .int i => .tuple [.str "int", .int i]
  | .tup vs => .tuple [.str "tuple", .tuple (Vl.ds vs)]
  | .con0 i n => .tuple [.str "con", .int i, .str n, .none]
  | .con1 i n a => .tuple [.str "con", .int i, .str n, a.d]
  | .ref i => .tuple [.str "ref", .int i]
  | .oth g r => .tuple (.str g :: r)
def Vl.ds : List Vl → List PyData
  | [] => []
  | a :: r => a.d :: Vl.ds r
end
theorem vds_map : ∀ l : List Vl, Vl.ds l = l.map Vl.d
  | [] => by simp [Vl.ds]
  | a :: r => by simp [Vl.ds, vds_map r]
theorem vds_len (l : List Vl) : (Vl.ds l).length = l.length := by rw [vds_map, List.length_map]
def Vl.tag : Vl → Str
  | .int _ => "int"
  | .tup _ => "tuple"
  | .con0 _ _ => "con"
  | .con1 _ _ _ => "con"
  | .ref _ => "ref"
  | .oth g _ => g
/-- the other tags are other ones -/
def Vl.ok : Vl → Prop
  | .oth g _ => g ≠ "int" ∧ g ≠ "tuple" ∧ g ≠ "con" ∧ g ≠ "ref"
  | _ => True
mutual
def Vl.oka : Vl → Prop
  | .tup vs => Vl.okas vs
  | .con1 _ _ a => a.oka
  | .oth g _ => g ≠ "int" ∧ g ≠ "tuple" ∧ g ≠ "con" ∧ g ≠ "ref"
  | _ => True
def Vl.okas : List Vl → Prop
  | [] => True
  | a :: r => a.oka ∧ Vl.okas r
end
theorem okas_mem : ∀ {l : List Vl} {a : Vl}, Vl.okas l → a ∈ l → a.oka
  | b :: r, a, h, m => by
    have h' : b.oka ∧ Vl.okas r := by simpa [Vl.okas] using h
    rcases List.mem_cons.mp m with q | q
    · rw [q]; exact h'.1
    · exact okas_mem h'.2 q
theorem Vl.oka.ok {v : Vl} (h : v.oka) : v.ok := by
  cases v with
  | oth g r => simp only [Vl.oka] at h; exact h
  | _ => trivial
theorem Vl.d_cons (v : Vl) : ∃ r, v.d = .tuple (.str v.tag :: r) := by
  cases v <;> (simp only [Vl.d, Vl.tag]; exact ⟨_, rfl⟩)
/-! ### entries -/
/-- a constructor: its result has the variables 0, 1, .. -/
structure Row where
  name : Str
  ar : Int
  arg : Option Sh
  st : Int
  m : Nat
  idx : Int
  fam : PyData
def vars (m : Nat) : List Sh := (List.range m).map fun k : Nat => Sh.v (k : Int)
def Row.argD (r : Row) : PyData := match r.arg with
  | none => .none
  | some s => s.d
def Row.d (r : Row) : PyData := .tuple [.str "con", .str r.name, .int r.ar, r.argD, (Sh.c r.st (vars r.m)).d, .int r.idx, r.fam]
inductive Ent
  | con (r : Row) | mod (n : Str) (es : List Ent) | oth (g : Str) (r : List PyData)
mutual
def Ent.d : Ent → PyData
  | .con r => r.d
  | .mod n es => .tuple [.str "module", .str n, .tuple (Ent.ds es)]
  | .oth g r => .tuple (.str g :: r)
def Ent.ds : List Ent → List PyData
  | [] => []
  | a :: r => a.d :: Ent.ds r
end
theorem eds_map : ∀ l : List Ent, Ent.ds l = l.map Ent.d
  | [] => by simp [Ent.ds]
  | a :: r => by simp [Ent.ds, eds_map r]
mutual
def Ent.rows : Ent → List Row
  | .con r => [r]
  | .mod _ es => Ent.rowss es
  | .oth _ _ => []
def Ent.rowss : List Ent → List Row
  | [] => []
  | a :: r => a.rows ++ Ent.rowss r
end
theorem rowss_app : ∀ a b : List Ent, Ent.rowss (a ++ b) = Ent.rowss a ++ Ent.rowss b
  | [], b => by simp [Ent.rowss]
  | x :: a, b => by simp [Ent.rowss, rowss_app a b]
mutual
def Ent.dep : Ent → Nat
  | .con _ => 0
  | .mod _ es => 1 + Ent.deps es
  | .oth _ _ => 0
def Ent.deps : List Ent → Nat
  | [] => 0
  | a :: r => Nat.max a.dep (Ent.deps r)
end
mutual
/-- the other tags are other ones -/
def Ent.ok : Ent → Prop
  | .con _ => True
  | .mod _ es => Ent.oks es
  | .oth g _ => g ≠ "con" ∧ g ≠ "module"
def Ent.oks : List Ent → Prop
  | [] => True
  | a :: r => a.ok ∧ Ent.oks r
end
theorem oks_mem : ∀ {l : List Ent} {a : Ent}, Ent.oks l → a ∈ l → a.ok
  | b :: r, a, h, m => by
    have h' : b.ok ∧ Ent.oks r := by simpa [Ent.oks] using h
    rcases List.mem_cons.mp m with q | q
    · rw [q]; exact h'.1
    · exact oks_mem h'.2 q
theorem deps_memE : ∀ {l : List Ent} {a : Ent}, a ∈ l → a.dep ≤ Ent.deps l
  | b :: r, a, h => by
    simp only [Ent.deps]
    rcases List.mem_cons.mp h with h | h
    · subst h; exact Nat.le_max_left _ _
    · exact Nat.le_trans (deps_memE h) (Nat.le_max_right _ _)
/-! ### agreement -/
def zipAll (p : Sh → Vl → Bool) : List Sh → List Vl → Bool
  | [], [] => true
  | a :: r, b :: q => p a b && zipAll p r q
  | _, _ => false
def rowsOf (rows : List Row) (s : Int) : List Row := rows.filter fun r => decide (r.st = s)
def agr (rows : List Row) (st : List Vl) : Nat → Sh → Vl → Bool
  | 0, _, _ => true
  | n + 1, sh, v => match sh with
    | .v _ => false
    | .f _ _ => decide (v.tag = "fun") || decide (v.tag = "fix")
    | .t ps => (match v with
      | .tup vs => zipAll (agr rows st n) ps vs
      | _ => false)
    | .c s as =>
      if s = 0 ∧ as = [] then decide (v.tag = "int")
      else if s = 1 ∧ as = [] then (match v with
        | .tup [] => true
        | _ => false)
      else if s = 2 ∧ as = [] then decide (v.tag = "packet")
      else if s = 3 then (match as, v with
        | a :: _, .ref i => (match (if 0 ≤ i then st[i.toNat]? else none) with
          | some u => agr rows st n a u
          | none => false)
        | _, _ => false)
      else match rowsOf rows s with
        | [] => true
        | rs => (match v with
          | .con0 i x => (match rs.find? fun r => decide (r.idx = i) with
            | none => true
            | some r => decide (x = r.name) && r.arg.isNone)
          | .con1 i x u => (match rs.find? fun r => decide (r.idx = i) with
            | none => true
            | some r => decide (x = r.name) && (match r.arg with
              | none => false
              | some a => agr rows st n (repl as a) u))
          | _ => false)
/-! ### shapes that fit the rows -/
mutual
def Sh.fit (ar : Int → Nat) : Sh → Prop
  | .v _ => True
  | .c s l => l.length = ar s ∧ Sh.fits ar l
  | .t l => Sh.fits ar l
  | .f a b => a.fit ar ∧ b.fit ar
def Sh.fits (ar : Int → Nat) : List Sh → Prop
  | [] => True
  | a :: r => a.fit ar ∧ Sh.fits ar r
end
theorem fits_mem {ar : Int → Nat} : ∀ {l : List Sh} {a : Sh}, Sh.fits ar l → a ∈ l → a.fit ar
  | b :: r, a, h, m => by
    have h' : b.fit ar ∧ Sh.fits ar r := by simpa [Sh.fits] using h
    rcases List.mem_cons.mp m with q | q
    · rw [q]; exact h'.1
    · exact fits_mem h'.2 q
mutual
theorem repl_fit {ar : Int → Nat} {as : List Sh} (h : Sh.fits ar as) : ∀ s : Sh, s.fit ar → (repl as s).fit ar
  | .v n, _ => by
    simp only [repl, pick]
    split
    · rename_i h0
      cases e : as[n.toNat]? with
      | none => simp [Sh.fit]
      | some a => exact fits_mem h (List.mem_of_getElem? e)
    · simp [Sh.fit]
  | .c s l, q => by
    simp only [repl, Sh.fit] at q ⊢
    exact ⟨by rw [repls_map, List.length_map]; exact q.1, repls_fit h l q.2⟩
  | .t l, q => by
    simp only [repl, Sh.fit] at q ⊢
    exact repls_fit h l q
  | .f a b, q => by
    simp only [repl, Sh.fit] at q ⊢
    exact ⟨repl_fit h a q.1, repl_fit h b q.2⟩
theorem repls_fit {ar : Int → Nat} {as : List Sh} (h : Sh.fits ar as) : ∀ l : List Sh, Sh.fits ar l → Sh.fits ar (repls as l)
  | [], _ => by simp [repls, Sh.fits]
  | a :: r, q => by
    simp only [repls, Sh.fits] at q ⊢
    exact ⟨repl_fit h a q.1, repls_fit h r q.2⟩
end
structure RowOk (ar : Int → Nat) (r : Row) : Prop where
  m : r.m = ar r.st
  arg : ∀ a, r.arg = some a → a.fit ar ∧ a.dep ≤ 8
structure Env (ar : Int → Nat) (es : List Ent) (st : List Vl) : Prop where
  oks : Ent.oks es
  deps : Ent.deps es ≤ 3
  few : (Ent.rowss es).length ≤ 1000
  rok : ∀ r ∈ Ent.rowss es, RowOk ar r
  stok : Vl.okas st
  ar3 : ar 3 = 1
  arb : ∀ s, ar s ≤ 100
theorem zipAll_len {p : Sh → Vl → Bool} : ∀ {a : List Sh} {b : List Vl}, a.length ≠ b.length → zipAll p a b = false
  | [], [], h => absurd rfl h
  | [], _ :: _, _ => rfl
  | _ :: _, [], _ => rfl
  | x :: a, y :: b, h => by
    have h' : a.length ≠ b.length := fun e => h (by simp [e])
    simp [zipAll, zipAll_len h']
theorem zipAll_bad {p : Sh → Vl → Bool} : ∀ {a : List Sh} {b : List Vl} {i : Nat} {x : Sh} {y : Vl}, a[i]? = some x → b[i]? = some y → p x y = false → zipAll p a b = false
  | [], _, _, _, _, h, _, _ => by simp at h
  | _ :: _, [], _, _, _, _, h, _ => by simp at h
  | x :: a, y :: b, 0, _, _, h, k, q => by simp at h k; subst h k; simp [zipAll, q]
  | x :: a, y :: b, i + 1, _, _, h, k, q => by simp at h k; simp [zipAll, zipAll_bad h k q]
theorem zipAll_ok {p : Sh → Vl → Bool} : ∀ {a : List Sh} {b : List Vl}, a.length = b.length → (∀ (i : Nat) x y, a[i]? = some x → b[i]? = some y → p x y = true) → zipAll p a b = true
  | [], [], _, _ => rfl
  | [], _ :: _, h, _ => by simp at h
  | _ :: _, [], h, _ => by simp at h
  | x :: a, y :: b, h, k => by
    have h1 := k 0 x y rfl rfl
    have h2 := zipAll_ok (p := p) (a := a) (b := b) (by simpa using h) (fun i u v e f => k (i + 1) u v (by simpa using e) (by simpa using f))
    simp [zipAll, h1, h2]
theorem dec_s (a b : Str) : decide (V.str a = V.str b) = decide (a = b) := by
  by_cases h : a = b
  · rw [h]; simp
  · rw [decide_eq_false h, decide_eq_false (fun e => h (V.str.inj e))]
theorem dec_i (a b : Int) : decide (V.int a = V.int b) = decide (a = b) := by
  by_cases h : a = b
  · rw [h]; simp
  · rw [decide_eq_false h, decide_eq_false (fun e => h (V.int.inj e))]
theorem str_ne {a b : Str} (h : a ≠ b) : decide (V.str a = V.str b) = false := by rw [dec_s]; exact decide_eq_false h
theorem pick_take {as : List Sh} {i : Nat} {a : Sh} (h : as[i]? = some a) (j : Int) : pick (as.take (i + 1)) j = if j = (i : Int) then some a else pick (as.take i) j := by
  unfold pick
  have hi := (List.getElem?_eq_some_iff.mp h).1
  by_cases h0 : 0 ≤ j
  · rw [if_pos h0, if_pos h0]
    by_cases e : j = (i : Int)
    · rw [if_pos e, show j.toNat = i by omega, List.getElem?_take, if_pos (by omega)]
      exact h
    · rw [if_neg e, List.getElem?_take, List.getElem?_take]
      by_cases l : j.toNat < i
      · rw [if_pos l, if_pos (by omega)]
      · rw [if_neg l, if_neg (by omega)]
  · rw [if_neg h0, if_neg h0, if_neg (by omega)]
theorem pick_nil (j : Int) : pick [] j = none := by
  unfold pick
  split <;> simp
theorem vars_get {m k : Nat} (h : k < m) : (vars m)[k]? = some (Sh.v (k : Int)) := by
  unfold vars
  rw [List.getElem?_map, List.getElem?_range h]
  rfl
/-! ### == with small data -/
theorem eqv_small (s : Int) (as : List Sh) (k : Int) : PyData.eqv (Sh.c s as).d (.tuple [.str "c", .int k, .tuple []]) = decide (s = k ∧ as = []) := by
  cases as with
  | nil =>
    simp only [Sh.d, Sh.ds, PyData.eqv, PyData.eqvAll]
    by_cases h : s = k <;> simp [h]
  | cons a r =>
    simp only [Sh.d, Sh.ds, PyData.eqv, PyData.eqvAll]
    simp
def Vl.isUnit : Vl → Bool
  | .tup [] => true
  | _ => false
theorem eqv_unit (v : Vl) (h : v.ok) : PyData.eqv v.d (.tuple [.str "tuple", .tuple []]) = v.isUnit := by
  cases v with
  | int i => simp only [Vl.d, PyData.eqv, PyData.eqvAll, Vl.isUnit]; simp
  | tup vs => cases vs <;> simp [Vl.d, Vl.ds, PyData.eqv, PyData.eqvAll, Vl.isUnit]
  | con0 i n => simp only [Vl.d, PyData.eqv, PyData.eqvAll, Vl.isUnit]; simp
  | con1 i n a => simp only [Vl.d, PyData.eqv, PyData.eqvAll, Vl.isUnit]; simp
  | ref i => simp only [Vl.d, PyData.eqv, PyData.eqvAll, Vl.isUnit]; simp
  | oth g r =>
    have hg : (g == ("tuple" : Str)) = false := by
      rw [beq_eq_false_iff_ne]
      exact h.2.1
    simp only [Vl.d, PyData.eqv, PyData.eqvAll, Vl.isUnit, hg, Bool.false_and]
/-! ### as objects -/
section
variable {K : PySem.W.Frag} {H : Hp}
theorem inv_v {x : V} {n : Int} (h : Rp K H x (Sh.v n).d) : ∃ a, x = .ref a ∧ SqT K H a [.str "v", .int n] := by
  simp only [Sh.d] at h
  obtain ⟨a, xs, rfl, s, r0⟩ := h.tup_inv
  obtain ⟨v1, w1, rfl, h1, r1⟩ := r0.cons_inv
  obtain ⟨v2, w2, rfl, h2, r2⟩ := r1.cons_inv
  have er := RpAll.nil_inv r2
  rw [h1.str_inv, h2.int_inv, er] at s
  exact ⟨a, rfl, s⟩
theorem inv_c {x : V} {n : Int} {l : List Sh} (h : Rp K H x (Sh.c n l).d) : ∃ a g gs, x = .ref a ∧ SqT K H a [.str "c", .int n, .ref g] ∧ SqT K H g gs ∧ RpAll K H gs (Sh.ds l) := by
  simp only [Sh.d] at h
  obtain ⟨a, xs, rfl, s, r0⟩ := h.tup_inv
  obtain ⟨v1, w1, rfl, h1, r1⟩ := r0.cons_inv
  obtain ⟨v2, w2, rfl, h2, r2⟩ := r1.cons_inv
  obtain ⟨v3, w3, rfl, h3, r3⟩ := r2.cons_inv
  obtain ⟨g, gs, rfl, sg, rg⟩ := h3.tup_inv
  have er := RpAll.nil_inv r3
  rw [h1.str_inv, h2.int_inv, er] at s
  exact ⟨a, g, gs, rfl, s, sg, rg⟩
theorem inv_t {x : V} {l : List Sh} (h : Rp K H x (Sh.t l).d) : ∃ a g gs, x = .ref a ∧ SqT K H a [.str "t", .ref g] ∧ SqT K H g gs ∧ RpAll K H gs (Sh.ds l) := by
  simp only [Sh.d] at h
  obtain ⟨a, xs, rfl, s, r0⟩ := h.tup_inv
  obtain ⟨v1, w1, rfl, h1, r1⟩ := r0.cons_inv
  obtain ⟨v3, w3, rfl, h3, r2⟩ := r1.cons_inv
  obtain ⟨g, gs, rfl, sg, rg⟩ := h3.tup_inv
  have er := RpAll.nil_inv r2
  rw [h1.str_inv, er] at s
  exact ⟨a, g, gs, rfl, s, sg, rg⟩
theorem inv_f {x : V} {p q : Sh} (h : Rp K H x (Sh.f p q).d) : ∃ a y z, x = .ref a ∧ SqT K H a [.str "f", y, z] ∧ Rp K H y p.d ∧ Rp K H z q.d := by
  simp only [Sh.d] at h
  obtain ⟨a, xs, rfl, s, r0⟩ := h.tup_inv
  obtain ⟨v1, w1, rfl, h1, r1⟩ := r0.cons_inv
  obtain ⟨v2, w2, rfl, h2, r2⟩ := r1.cons_inv
  obtain ⟨v3, w3, rfl, h3, r3⟩ := r2.cons_inv
  have er := RpAll.nil_inv r3
  rw [h1.str_inv, er] at s
  exact ⟨a, v2, v3, rfl, s, h2, h3⟩
theorem inv_tag {x : V} (v : Vl) (h : Rp K H x v.d) : ∃ a ws, x = .ref a ∧ SqT K H a (.str v.tag :: ws) := by
  obtain ⟨r, e⟩ := v.d_cons
  rw [e] at h
  obtain ⟨a, xs, rfl, s, r0⟩ := h.tup_inv
  obtain ⟨v1, w1, rfl, h1, r1⟩ := r0.cons_inv
  rw [h1.str_inv] at s
  exact ⟨a, w1, rfl, s⟩
theorem inv_tup {x : V} {l : List Vl} (h : Rp K H x (Vl.tup l).d) : ∃ a g gs, x = .ref a ∧ SqT K H a [.str "tuple", .ref g] ∧ SqT K H g gs ∧ RpAll K H gs (Vl.ds l) := by
  simp only [Vl.d] at h
  obtain ⟨a, xs, rfl, s, r0⟩ := h.tup_inv
  obtain ⟨v1, w1, rfl, h1, r1⟩ := r0.cons_inv
  obtain ⟨v3, w3, rfl, h3, r2⟩ := r1.cons_inv
  obtain ⟨g, gs, rfl, sg, rg⟩ := h3.tup_inv
  have er := RpAll.nil_inv r2
  rw [h1.str_inv, er] at s
  exact ⟨a, g, gs, rfl, s, sg, rg⟩
theorem inv_con0 {x : V} {i : Int} {n : Str} (h : Rp K H x (Vl.con0 i n).d) : ∃ a, x = .ref a ∧ SqT K H a [.str "con", .int i, .str n, .non] := by
  simp only [Vl.d] at h
  obtain ⟨a, xs, rfl, s, r0⟩ := h.tup_inv
  obtain ⟨v1, w1, rfl, h1, r1⟩ := r0.cons_inv
  obtain ⟨v2, w2, rfl, h2, r2⟩ := r1.cons_inv
  obtain ⟨v3, w3, rfl, h3, r3⟩ := r2.cons_inv
  obtain ⟨v4, w4, rfl, h4, r4⟩ := r3.cons_inv
  have er := RpAll.nil_inv r4
  rw [h1.str_inv, h2.int_inv, h3.str_inv, h4.non_inv, er] at s
  exact ⟨a, rfl, s⟩
theorem inv_con1 {x : V} {i : Int} {n : Str} {u : Vl} (h : Rp K H x (Vl.con1 i n u).d) : ∃ a y, x = .ref a ∧ SqT K H a [.str "con", .int i, .str n, .ref y] ∧ Rp K H (.ref y) u.d := by
  simp only [Vl.d] at h
  obtain ⟨a, xs, rfl, s, r0⟩ := h.tup_inv
  obtain ⟨v1, w1, rfl, h1, r1⟩ := r0.cons_inv
  obtain ⟨v2, w2, rfl, h2, r2⟩ := r1.cons_inv
  obtain ⟨v3, w3, rfl, h3, r3⟩ := r2.cons_inv
  obtain ⟨v4, w4, rfl, h4, r4⟩ := r3.cons_inv
  have er := RpAll.nil_inv r4
  rw [h1.str_inv, h2.int_inv, h3.str_inv, er] at s
  obtain ⟨y, ws, rfl, _⟩ := inv_tag u h4
  exact ⟨a, y, rfl, s, h4⟩
theorem inv_ref {x : V} {i : Int} (h : Rp K H x (Vl.ref i).d) : ∃ a, x = .ref a ∧ SqT K H a [.str "ref", .int i] := by
  simp only [Vl.d] at h
  obtain ⟨a, xs, rfl, s, r0⟩ := h.tup_inv
  obtain ⟨v1, w1, rfl, h1, r1⟩ := r0.cons_inv
  obtain ⟨v2, w2, rfl, h2, r2⟩ := r1.cons_inv
  have er := RpAll.nil_inv r2
  rw [h1.str_inv, h2.int_inv, er] at s
  exact ⟨a, rfl, s⟩
theorem inv_row {x : V} {r : Row} (h : Rp K H x r.d) : ∃ a y p q gs f, x = .ref a ∧ SqT K H a [.str "con", .str r.name, .int r.ar, y, .ref p, .int r.idx, f] ∧ Rp K H y r.argD ∧ SqT K H p [.str "c", .int r.st, .ref q] ∧ SqT K H q gs ∧ RpAll K H gs (Sh.ds (vars r.m)) := by
  simp only [Row.d] at h
  obtain ⟨a, xs, rfl, s, r0⟩ := h.tup_inv
  obtain ⟨v1, w1, rfl, h1, r1⟩ := r0.cons_inv
  obtain ⟨v2, w2, rfl, h2, r2⟩ := r1.cons_inv
  obtain ⟨v3, w3, rfl, h3, r3⟩ := r2.cons_inv
  obtain ⟨v4, w4, rfl, h4, r4⟩ := r3.cons_inv
  obtain ⟨v5, w5, rfl, h5, r5⟩ := r4.cons_inv
  obtain ⟨v6, w6, rfl, h6, r6⟩ := r5.cons_inv
  obtain ⟨v7, w7, rfl, h7, r7⟩ := r6.cons_inv
  obtain ⟨p, q, gs, rfl, s5, s6, s7⟩ := inv_c h5
  have er := RpAll.nil_inv r7
  rw [h1.str_inv, h2.str_inv, h3.int_inv, h6.int_inv, er] at s
  exact ⟨a, v4, p, q, gs, v7, rfl, s, h4, s5, s6, s7⟩
theorem Sh.ref {x : V} (s : Sh) (h : Rp K H x s.d) : ∃ a, x = .ref a := by
  cases s with
  | v n => obtain ⟨a, e, _⟩ := inv_v h; exact ⟨a, e⟩
  | c n l => obtain ⟨a, _, _, e, _⟩ := inv_c h; exact ⟨a, e⟩
  | t l => obtain ⟨a, _, _, e, _⟩ := inv_t h; exact ⟨a, e⟩
  | f p q => obtain ⟨a, _, _, e, _⟩ := inv_f h; exact ⟨a, e⟩
theorem inv_mod {x : V} {n : Str} {es : List Ent} (h : Rp K H x (Ent.mod n es).d) : ∃ a g, x = .ref a ∧ SqT K H a [.str "module", .str n, .ref g] ∧ Rp K H (.ref g) (.tuple (Ent.ds es)) := by
  simp only [Ent.d] at h
  obtain ⟨a, xs, rfl, s, r0⟩ := h.tup_inv
  obtain ⟨v1, w1, rfl, h1, r1⟩ := r0.cons_inv
  obtain ⟨v2, w2, rfl, h2, r2⟩ := r1.cons_inv
  obtain ⟨v3, w3, rfl, h3, r3⟩ := r2.cons_inv
  obtain ⟨g, gs, rfl, _, _⟩ := h3.tup_inv
  have er := RpAll.nil_inv r3
  rw [h1.str_inv, h2.str_inv, er] at s
  exact ⟨a, g, rfl, s, h3⟩
theorem inv_othE {x : V} {g : Str} {r : List PyData} (h : Rp K H x (Ent.oth g r).d) : ∃ a ws, x = .ref a ∧ SqT K H a (.str g :: ws) := by
  simp only [Ent.d] at h
  obtain ⟨a, xs, rfl, s, r0⟩ := h.tup_inv
  obtain ⟨v1, w1, rfl, h1, r1⟩ := r0.cons_inv
  rw [h1.str_inv] at s
  exact ⟨a, w1, rfl, s⟩
end
end AG

set_option Elab.async false
set_option maxRecDepth 100000
set_option linter.all false
set_option maxHeartbeats 4000000
/-! a value that is a list or a tuple; != where one side is small -/
namespace GD
open PySem L2 PySem.Spec PyProof.Rows
section
variable {X : Cx} {tg : Expr}
theorem op_neS (hu : X.A.units + 64 < cLine) : OpR X (compareOp .NotEq) (rNeS X.K) := by
  intro pins s σ H x y v u Q I rx ry h
  obtain ⟨d, e, hd, he, hs, q⟩ := h
  obtain ⟨as, r1⟩ := Dp.reads I d x v hd.dp rx
  obtain ⟨bs, r2⟩ := Dp.reads I e y u he.dp ry
  exact SeqAt.compareNe_reads r1 r2 (Rp.lay' _ _ hd) (Rp.lay' _ _ he) (by have := Nat.min_le_right d.depth e.depth; omega) ⟨.bl _, H, I, rfl, q⟩
def rSlTwo (K : PySem.W.Frag) : V → Option Int → Option Int → Hp → VK → Prop := fun x lo hi H Q => rSlL K x lo hi H Q ∨ rSlA K x lo hi H Q
theorem sl_two : SlR X (rSlTwo X.K) := SlR.or sl_list sl_tupA
def iTwo (K : PySem.W.Frag) (tl : TE) : TI := fun σ H R => tl σ H fun x H1 => ∃ a, x = .ref a ∧ (((∃ xs, SqL K H1 a xs) ∧ R (Itl K a) H1) ∨ ((∃ xs, SqT K H1 a xs) ∧ R (Itt K a) H1))
theorem pi_two {l : Expr} {tl : TE} (hl : PE X l tl) : PI X tg l (iTwo X.K tl) := by
  refine ⟨fun pins s σ H R I h => ?_⟩
  refine thn (hl.run pins s σ H _ I h) fun v s1 ⟨x, H1, I1, r1, q1⟩ => ?_
  obtain ⟨a, e, q1⟩ := q1
  subst e
  cases r1
  rcases q1 with ⟨⟨xs, hq⟩, q⟩ | ⟨⟨xs, hq⟩, q⟩
  · obtain ⟨its, rv, p, hz⟩ := I1.list hq
    refine wpAny_pyIter_list p.isList ?_
    refine ⟨s1.heap.objs.size, [s1.heap.objs.size], _, _, H1, rfl, I1.kept (t' := s1.toks) fun b o e => Heap.get?_push_of_some _ e, turn_list a _, ⟨_, Heap.get?_push_size _ rfl, rfl, rfl⟩, fun b hb => ?_, q⟩
    have e : b = s1.heap.objs.size := by simpa using hb
    subst e
    exact I1.fpOk (Nat.le_refl _) (I1.hok.fresh (Nat.le_refl _))
  · obtain ⟨its, rv, p, hz⟩ := I1.tuple hq
    refine wpAny_pyIter_tuple (show s1.heap.IsTuple a its.toArray from p) ?_
    refine ⟨s1.heap.objs.size, [s1.heap.objs.size], _, _, H1, rfl, I1.kept (t' := s1.toks) fun b o e => Heap.get?_push_of_some _ e, turn_tuple a _, ⟨_, Heap.get?_push_size _ rfl, rfl, rfl⟩, fun b hb => ?_, q⟩
    have e : b = s1.heap.objs.size := by simpa using hb
    subst e
    exact I1.fpOk (Nat.le_refl _) (I1.hok.fresh (Nat.le_refl _))
theorem catK {K : PySem.W.Frag} (h : X.K = K) : OpR X (binaryOp .Add) (rCatA K) := by
  subst h
  exact op_catA
def rIxTwo (K : PySem.W.Frag) : R2 := fun x y H Q => rIxL K x y H Q ∨ rIxT K x y H Q
theorem ixTwo {K : PySem.W.Frag} (h : X.K = K) : IxR X (rIxTwo K) := by
  subst h
  exact ix_list.or ix_tup
end
end GD

set_option Elab.async false
set_option maxRecDepth 100000
set_option linter.all false
set_option maxHeartbeats 4000000
/-! entries of a level; paths, stamps and texts of shapes -/
namespace RG
open PySem L2 GD AG
inductive En
  | val (n : Str) (k : Int) (s : Sh)
  | con (n : Str) (ar : Int) (arg : Option Sh) (res : Sh) (idx : Int) (fam : PyData)
  | exn (n : Str) (arg : Option Sh)
  | shp (n : Str) (k : Nat) (s : Sh)
  | mod (n : Str) (es : List En)
  | oth (g n : Str) (r : List PyData)
def argD : Option Sh → PyData
  | none => .none
  | some s => s.d
mutual
def En.d : En → PyData
  | .val n k s => .tuple [.str "val", .str n, .tuple [.int k, s.d]]
  | .con n ar arg res idx fam => .tuple [.str "con", .str n, .int ar, argD arg, res.d, .int idx, fam]
  | .exn n arg => .tuple [.str "exn", .str n, argD arg]
  | .shp n k s => .tuple [.str "shape", .str n, .int (k : Int), s.d]
  | .mod n es => .tuple [.str "module", .str n, .tuple (En.ds es)]
  | .oth g n r => .tuple (.str g :: .str n :: r)
def En.ds : List En → List PyData
  | [] => []
  | a :: r => a.d :: En.ds r
end
theorem ends_map : ∀ l : List En, En.ds l = l.map En.d
  | [] => by simp [En.ds]
  | a :: r => by simp [En.ds, ends_map r]
theorem ends_len (l : List En) : (En.ds l).length = l.length := by rw [ends_map, List.length_map]
def En.tag : En → Str
  | .val _ _ _ => "val"
  | .con _ _ _ _ _ _ => "con"
  | .exn _ _ => "exn"
  | .shp _ _ _ => "shape"
  | .mod _ _ => "module"
  | .oth g _ _ => g
def En.name : En → Str
  | .val n _ _ => n
  | .con n _ _ _ _ _ => n
  | .exn n _ => n
  | .shp n _ _ => n
  | .mod n _ => n
  | .oth _ n _ => n
def En.space (e : En) : Str := if e.tag = "exn" then "con" else e.tag
theorem En.d_cons (e : En) : ∃ r, e.d = .tuple (.str e.tag :: .str e.name :: r) := by
  cases e <;> (simp only [En.d, En.tag, En.name]; exact ⟨_, rfl⟩)
mutual
/-- the other tags are other ones -/
def En.ok : En → Prop
  | .mod _ es => En.oks es
  | .oth g _ _ => g ≠ "val" ∧ g ≠ "con" ∧ g ≠ "exn" ∧ g ≠ "shape" ∧ g ≠ "module" ∧ g ≠ "name"
  | _ => True
def En.oks : List En → Prop
  | [] => True
  | a :: r => a.ok ∧ En.oks r
end
theorem enoks_mem : ∀ {l : List En} {a : En}, En.oks l → a ∈ l → a.ok
  | b :: r, a, h, m => by
    have h' : b.ok ∧ En.oks r := by simpa [En.oks] using h
    rcases List.mem_cons.mp m with q | q
    · rw [q]; exact h'.1
    · exact enoks_mem h'.2 q
mutual
def En.dep : En → Nat
  | .mod _ es => 1 + En.deps es
  | _ => 0
def En.deps : List En → Nat
  | [] => 0
  | a :: r => Nat.max a.dep (En.deps r)
end
theorem endeps_mem : ∀ {l : List En} {a : En}, a ∈ l → a.dep ≤ En.deps l
  | b :: r, a, h => by
    simp only [En.deps]
    rcases List.mem_cons.mp h with h | h
    · subst h; exact Nat.le_max_left _ _
    · exact Nat.le_trans (endeps_mem h) (Nat.le_max_right _ _)
/-! ### paths -/
mutual
/-- those of one module -/
def En.paths (head : List Str) : En → List (List Str × En)
  | .mod n es => (es.filterMap fun e => match e with
      | .shp m k s => some ((head ++ [n]) ++ [m], En.shp m k s)
      | _ => none) ++ En.pathss (head ++ [n]) es
  | _ => []
def En.pathss (head : List Str) : List En → List (List Str × En)
  | [] => []
  | a :: r => En.paths head a ++ En.pathss head r
end
def shpOf (head : List Str) : En → Option (List Str × En)
  | .shp m k s => some (head ++ [m], En.shp m k s)
  | _ => none
/-- the shape entries with their paths, in the order of visits -/
def paths (es : List En) (head : List Str) : List (List Str × En) := es.filterMap (shpOf head) ++ En.pathss head es
theorem paths_mod (head : List Str) (n : Str) (es : List En) : En.paths head (.mod n es) = paths es (head ++ [n]) := by
  simp only [En.paths, paths]
  congr 1
theorem pathss_app (head : List Str) : ∀ a b : List En, En.pathss head (a ++ b) = En.pathss head a ++ En.pathss head b
  | [], b => by simp [En.pathss]
  | x :: a, b => by simp [En.pathss, pathss_app head a b]
def lastE (es : List En) (sp nm : Str) : Option En := es.reverse.find? fun e => decide (e.name = nm) && decide (e.space = sp)
def lookE : List En → Str → List Str → Option En
  | _, _, [] => none
  | es, sp, [x] => lastE es sp x
  | es, sp, x :: y :: r => match lastE es "module" x with
    | some (.mod _ l) => lookE l sp (y :: r)
    | _ => none
def optD : Option En → PyData
  | none => .none
  | some e => e.d
def stampOf : En → Option Int
  | .shp _ k (.c s as) => if PyData.eqv (.tuple (Sh.ds as)) (.tuple (Sh.ds (vars k))) = true then some s else none
  | _ => none
def pathD (p : List Str) : PyData := .tuple (p.map PyData.str)
def isStamp (names : List En) (s : Int) (q : List Str × En) : Bool := decide (stampOf q.2 = some s) && PyData.eqv (optD (lookE names "shape" q.1)) q.2.d
def stampPath (names : List En) (s : Int) : Option (List Str) := ((paths names []).find? (isStamp names s)).map Prod.fst
def stampText (names : List En) (s : Int) : Str := match stampPath names s with
  | none => ("?" : Str) ++ (toString s : Str)
  | some p => Txt.join ("." : Str) p
end RG

set_option Elab.async false
set_option maxRecDepth 100000
set_option linter.all false
set_option maxHeartbeats 4000000
namespace K87
open PySem L2 GD
theorem ixl {X : Cx} {K : PySem.W.Frag} (h : X.K = K) : IxR X (rIxL K) := by
  subst h
  exact ix_list
theorem ixt {X : Cx} {K : PySem.W.Frag} (h : X.K = K) : IxR X (rIxT K) := by
  subst h
  exact ix_tup
theorem hu65 {k : Nat} {A : Around} (hr : Room k A) : A.units + 65 < cLine := by
  have := hr.un
  omega
theorem tYes_do {σ : L2.St} {H : Hp} {f g : Hp → Prop} (h : f H) : tYes σ H (fun b H3 => if b = true then f H3 else g H3) := by
  show (if true = true then f H else g H)
  rw [if_pos rfl]
  exact h
def BASIS_D : PyData := .tuple [.tuple [.tuple [.str "shape", .str "int", .int 0, .tuple [.str "c", .int 0, .tuple []]], .tuple [.str "shape", .str "unit", .int 0, .tuple [.str "c", .int 1, .tuple []]], .tuple [.str "shape", .str "exn", .int 0, .tuple [.str "c", .int 2, .tuple []]], .tuple [.str "shape", .str "ref", .int 1, .tuple [.str "c", .int 3, .tuple [.tuple [.str "v", .int 0]]]], .tuple [.str "shape", .str "bool", .int 0, .tuple [.str "c", .int 4, .tuple []]], .tuple [.str "shape", .str "list", .int 1, .tuple [.str "c", .int 5, .tuple [.tuple [.str "v", .int 0]]]], .tuple [.str "shape", .str "option", .int 1, .tuple [.str "c", .int 6, .tuple [.tuple [.str "v", .int 0]]]], .tuple [.str "shape", .str "order", .int 0, .tuple [.str "c", .int 7, .tuple []]], .tuple [.str "con", .str "False", .int 0, .none, .tuple [.str "c", .int 4, .tuple []], .int 0, .tuple [.tuple [.str "False", .bool false], .tuple [.str "True", .bool false]]], .tuple [.str "con", .str "True", .int 0, .none, .tuple [.str "c", .int 4, .tuple []], .int 1, .tuple [.tuple [.str "False", .bool false], .tuple [.str "True", .bool false]]], .tuple [.str "con", .str "Nil", .int 1, .none, .tuple [.str "c", .int 5, .tuple [.tuple [.str "v", .int 0]]], .int 0, .tuple [.tuple [.str "Nil", .bool false], .tuple [.str "Cons", .bool true]]], .tuple [.str "con", .str "Cons", .int 1, .tuple [.str "t", .tuple [.tuple [.str "v", .int 0], .tuple [.str "c", .int 5, .tuple [.tuple [.str "v", .int 0]]]]], .tuple [.str "c", .int 5, .tuple [.tuple [.str "v", .int 0]]], .int 1, .tuple [.tuple [.str "Nil", .bool false], .tuple [.str "Cons", .bool true]]], .tuple [.str "con", .str "None", .int 1, .none, .tuple [.str "c", .int 6, .tuple [.tuple [.str "v", .int 0]]], .int 0, .tuple [.tuple [.str "None", .bool false], .tuple [.str "Some", .bool true]]], .tuple [.str "con", .str "Some", .int 1, .tuple [.str "v", .int 0], .tuple [.str "c", .int 6, .tuple [.tuple [.str "v", .int 0]]], .int 1, .tuple [.tuple [.str "None", .bool false], .tuple [.str "Some", .bool true]]], .tuple [.str "con", .str "Less", .int 0, .none, .tuple [.str "c", .int 7, .tuple []], .int 0, .tuple [.tuple [.str "Less", .bool false], .tuple [.str "Equal", .bool false], .tuple [.str "Greater", .bool false]]], .tuple [.str "con", .str "Equal", .int 0, .none, .tuple [.str "c", .int 7, .tuple []], .int 1, .tuple [.tuple [.str "Less", .bool false], .tuple [.str "Equal", .bool false], .tuple [.str "Greater", .bool false]]], .tuple [.str "con", .str "Greater", .int 0, .none, .tuple [.str "c", .int 7, .tuple []], .int 2, .tuple [.tuple [.str "Less", .bool false], .tuple [.str "Equal", .bool false], .tuple [.str "Greater", .bool false]]], .tuple [.str "exn", .str "Match", .none], .tuple [.str "exn", .str "Bind", .none], .tuple [.str "exn", .str "Div", .none], .tuple [.str "exn", .str "Equality", .none], .tuple [.str "val", .str "+", .tuple [.int 0, .tuple [.str "f", .tuple [.str "t", .tuple [.tuple [.str "c", .int 0, .tuple []], .tuple [.str "c", .int 0, .tuple []]]], .tuple [.str "c", .int 0, .tuple []]]]], .tuple [.str "val", .str "-", .tuple [.int 0, .tuple [.str "f", .tuple [.str "t", .tuple [.tuple [.str "c", .int 0, .tuple []], .tuple [.str "c", .int 0, .tuple []]]], .tuple [.str "c", .int 0, .tuple []]]]], .tuple [.str "val", .str "*", .tuple [.int 0, .tuple [.str "f", .tuple [.str "t", .tuple [.tuple [.str "c", .int 0, .tuple []], .tuple [.str "c", .int 0, .tuple []]]], .tuple [.str "c", .int 0, .tuple []]]]], .tuple [.str "val", .str "div", .tuple [.int 0, .tuple [.str "f", .tuple [.str "t", .tuple [.tuple [.str "c", .int 0, .tuple []], .tuple [.str "c", .int 0, .tuple []]]], .tuple [.str "c", .int 0, .tuple []]]]], .tuple [.str "val", .str "mod", .tuple [.int 0, .tuple [.str "f", .tuple [.str "t", .tuple [.tuple [.str "c", .int 0, .tuple []], .tuple [.str "c", .int 0, .tuple []]]], .tuple [.str "c", .int 0, .tuple []]]]], .tuple [.str "val", .str "<", .tuple [.int 0, .tuple [.str "f", .tuple [.str "t", .tuple [.tuple [.str "c", .int 0, .tuple []], .tuple [.str "c", .int 0, .tuple []]]], .tuple [.str "c", .int 4, .tuple []]]]], .tuple [.str "val", .str "<=", .tuple [.int 0, .tuple [.str "f", .tuple [.str "t", .tuple [.tuple [.str "c", .int 0, .tuple []], .tuple [.str "c", .int 0, .tuple []]]], .tuple [.str "c", .int 4, .tuple []]]]], .tuple [.str "val", .str ">", .tuple [.int 0, .tuple [.str "f", .tuple [.str "t", .tuple [.tuple [.str "c", .int 0, .tuple []], .tuple [.str "c", .int 0, .tuple []]]], .tuple [.str "c", .int 4, .tuple []]]]], .tuple [.str "val", .str ">=", .tuple [.int 0, .tuple [.str "f", .tuple [.str "t", .tuple [.tuple [.str "c", .int 0, .tuple []], .tuple [.str "c", .int 0, .tuple []]]], .tuple [.str "c", .int 4, .tuple []]]]], .tuple [.str "val", .str "=", .tuple [.int 1, .tuple [.str "f", .tuple [.str "t", .tuple [.tuple [.str "v", .int 0], .tuple [.str "v", .int 0]]], .tuple [.str "c", .int 4, .tuple []]]]], .tuple [.str "val", .str "<>", .tuple [.int 1, .tuple [.str "f", .tuple [.str "t", .tuple [.tuple [.str "v", .int 0], .tuple [.str "v", .int 0]]], .tuple [.str "c", .int 4, .tuple []]]]], .tuple [.str "val", .str "~", .tuple [.int 0, .tuple [.str "f", .tuple [.str "c", .int 0, .tuple []], .tuple [.str "c", .int 0, .tuple []]]]], .tuple [.str "val", .str "ref", .tuple [.int 1, .tuple [.str "f", .tuple [.str "v", .int 0], .tuple [.str "c", .int 3, .tuple [.tuple [.str "v", .int 0]]]]]], .tuple [.str "val", .str "!", .tuple [.int 1, .tuple [.str "f", .tuple [.str "c", .int 3, .tuple [.tuple [.str "v", .int 0]]], .tuple [.str "v", .int 0]]]], .tuple [.str "val", .str ":=", .tuple [.int 1, .tuple [.str "f", .tuple [.str "t", .tuple [.tuple [.str "c", .int 3, .tuple [.tuple [.str "v", .int 0]]], .tuple [.str "v", .int 0]]], .tuple [.str "c", .int 1, .tuple []]]]], .tuple [.str "val", .str "print", .tuple [.int 0, .tuple [.str "f", .tuple [.str "c", .int 0, .tuple []], .tuple [.str "c", .int 1, .tuple []]]]], .tuple [.str "val", .str "not", .tuple [.int 0, .tuple [.str "f", .tuple [.str "c", .int 4, .tuple []], .tuple [.str "c", .int 4, .tuple []]]]], .tuple [.str "val", .str "@", .tuple [.int 1, .tuple [.str "f", .tuple [.str "t", .tuple [.tuple [.str "c", .int 5, .tuple [.tuple [.str "v", .int 0]]], .tuple [.str "c", .int 5, .tuple [.tuple [.str "v", .int 0]]]]], .tuple [.str "c", .int 5, .tuple [.tuple [.str "v", .int 0]]]]]]], .tuple [.int 0, .int 0, .int 0, .int 1, .int 0, .int 1, .int 1, .int 0]]
def EXN_D : PyData := .tuple [.str "c", .int 2, .tuple []]
def topS (i : Nat) : Stmt := PySem.Challenge.pw_shapewright_k87_reports.main.body.getD i (.Pass ⟨0, 0, 0, 0⟩)
abbrev s_direct_parts : Stmt := topS 12
abbrev N_direct_parts : List Str := ["shape"]
theorem sc_direct_parts : FnScope N_direct_parts ["shape"] (defScope s_direct_parts) := ⟨rfl, rfl, rfl, by decide +kernel, rfl, by decide +kernel, by decide +kernel⟩
abbrev s_with_parts : Stmt := topS 13
abbrev N_with_parts : List Str := ["shape", "new_parts"]
theorem sc_with_parts : FnScope N_with_parts ["shape", "new_parts"] (defScope s_with_parts) := ⟨rfl, rfl, rfl, by decide +kernel, rfl, by decide +kernel, by decide +kernel⟩
abbrev s_within_bounds : Stmt := topS 14
abbrev N_within_bounds : List Str := ["shape", "waiting", "many", "node", "level", "part"]
theorem sc_within_bounds : FnScope N_within_bounds ["shape"] (defScope s_within_bounds) := ⟨rfl, rfl, rfl, by decide +kernel, rfl, by decide +kernel, by decide +kernel⟩
abbrev s_variables : Stmt := topS 15
abbrev N_variables : List Str := ["shape", "found", "waiting", "node", "part"]
theorem sc_variables : FnScope N_variables ["shape"] (defScope s_variables) := ⟨rfl, rfl, rfl, by decide +kernel, rfl, by decide +kernel, by decide +kernel⟩
abbrev s_replace_variables : Stmt := topS 16
abbrev N_replace_variables : List Str := ["shape", "mapping", "new_parts", "part"]
theorem sc_replace_variables : FnScope N_replace_variables ["shape", "mapping"] (defScope s_replace_variables) := ⟨rfl, rfl, rfl, by decide +kernel, rfl, by decide +kernel, by decide +kernel⟩
abbrev s_substitute : Stmt := topS 17
abbrev N_substitute : List Str := ["shape", "mapping", "result"]
theorem sc_substitute : FnScope N_substitute ["shape", "mapping"] (defScope s_substitute) := ⟨rfl, rfl, rfl, by decide +kernel, rfl, by decide +kernel, by decide +kernel⟩
abbrev s_space_of : Stmt := topS 19
abbrev N_space_of : List Str := ["entry"]
theorem sc_space_of : FnScope N_space_of ["entry"] (defScope s_space_of) := ⟨rfl, rfl, rfl, by decide +kernel, rfl, by decide +kernel, by decide +kernel⟩
abbrev s_last_entry : Stmt := topS 20
abbrev N_last_entry : List Str := ["entries", "space", "name", "entry"]
theorem sc_last_entry : FnScope N_last_entry ["entries", "space", "name"] (defScope s_last_entry) := ⟨rfl, rfl, rfl, by decide +kernel, rfl, by decide +kernel, by decide +kernel⟩
abbrev s_lookup : Stmt := topS 21
abbrev N_lookup : List Str := ["entries", "space", "path", "name", "module"]
theorem sc_lookup : FnScope N_lookup ["entries", "space", "path"] (defScope s_lookup) := ⟨rfl, rfl, rfl, by decide +kernel, rfl, by decide +kernel, by decide +kernel⟩
abbrev s_renumber : Stmt := topS 22
abbrev N_renumber : List Str := ["shape", "mapping", "number"]
theorem sc_renumber : FnScope N_renumber ["shape"] (defScope s_renumber) := ⟨rfl, rfl, rfl, by decide +kernel, rfl, by decide +kernel, by decide +kernel⟩
abbrev s_constructor_scheme : Stmt := topS 23
abbrev N_constructor_scheme : List Str := ["entry", "result", "argument"]
theorem sc_constructor_scheme : FnScope N_constructor_scheme ["entry"] (defScope s_constructor_scheme) := ⟨rfl, rfl, rfl, by decide +kernel, rfl, by decide +kernel, by decide +kernel⟩
abbrev s_general_name : Stmt := topS 26
abbrev N_general_name : List Str := ["number", "rank", "tail"]
theorem sc_general_name : FnScope N_general_name ["number"] (defScope s_general_name) := ⟨rfl, rfl, rfl, by decide +kernel, rfl, by decide +kernel, by decide +kernel⟩
abbrev s_parameters : Stmt := topS 27
abbrev N_parameters : List Str := ["k", "n"]
theorem sc_parameters : FnScope N_parameters ["k"] (defScope s_parameters) := ⟨rfl, rfl, rfl, by decide +kernel, rfl, by decide +kernel, by decide +kernel⟩
abbrev s_stamp_of : Stmt := topS 28
abbrev N_stamp_of : List Str := ["entry"]
theorem sc_stamp_of : FnScope N_stamp_of ["entry"] (defScope s_stamp_of) := ⟨rfl, rfl, rfl, by decide +kernel, rfl, by decide +kernel, by decide +kernel⟩
abbrev s_shape_paths : Stmt := topS 29
abbrev N_shape_paths : List Str := ["entries", "head", "found", "entry"]
theorem sc_shape_paths : FnScope N_shape_paths ["entries", "head"] (defScope s_shape_paths) := ⟨rfl, rfl, rfl, by decide +kernel, rfl, by decide +kernel, by decide +kernel⟩
abbrev s_stamp_path : Stmt := topS 30
abbrev N_stamp_path : List Str := ["names", "stamp", "path", "entry"]
theorem sc_stamp_path : FnScope N_stamp_path ["names", "stamp"] (defScope s_stamp_path) := ⟨rfl, rfl, rfl, by decide +kernel, rfl, by decide +kernel, by decide +kernel⟩
abbrev s_stamp_text : Stmt := topS 31
abbrev N_stamp_text : List Str := ["names", "stamp", "path"]
theorem sc_stamp_text : FnScope N_stamp_text ["names", "stamp"] (defScope s_stamp_text) := ⟨rfl, rfl, rfl, by decide +kernel, rfl, by decide +kernel, by decide +kernel⟩
abbrev s_variable_text : Stmt := topS 32
abbrev N_variable_text : List Str := ["number", "free"]
theorem sc_variable_text : FnScope N_variable_text ["number", "free"] (defScope s_variable_text) := ⟨rfl, rfl, rfl, by decide +kernel, rfl, by decide +kernel, by decide +kernel⟩
abbrev s_enclosed : Stmt := topS 33
abbrev N_enclosed : List Str := ["text", "shape", "tags"]
theorem sc_enclosed : FnScope N_enclosed ["text", "shape", "tags"] (defScope s_enclosed) := ⟨rfl, rfl, rfl, by decide +kernel, rfl, by decide +kernel, by decide +kernel⟩
abbrev s_text_of : Stmt := topS 34
abbrev N_text_of : List Str := ["names", "shape", "free", "left", "name", "part"]
theorem sc_text_of : FnScope N_text_of ["names", "shape", "free"] (defScope s_text_of) := ⟨rfl, rfl, rfl, by decide +kernel, rfl, by decide +kernel, by decide +kernel⟩
abbrev s_shape_text : Stmt := topS 35
abbrev N_shape_text : List Str := ["names", "shape", "free", "number"]
theorem sc_shape_text : FnScope N_shape_text ["names", "shape"] (defScope s_shape_text) := ⟨rfl, rfl, rfl, by decide +kernel, rfl, by decide +kernel, by decide +kernel⟩
abbrev s_parameter_text : Stmt := topS 36
abbrev N_parameter_text : List Str := ["k", "n"]
theorem sc_parameter_text : FnScope N_parameter_text ["k"] (defScope s_parameter_text) := ⟨rfl, rfl, rfl, by decide +kernel, rfl, by decide +kernel, by decide +kernel⟩
abbrev s_shape_line : Stmt := topS 37
abbrev N_shape_line : List Str := ["names", "entry", "head", "stamp", "front"]
theorem sc_shape_line : FnScope N_shape_line ["names", "entry", "head"] (defScope s_shape_line) := ⟨rfl, rfl, rfl, by decide +kernel, rfl, by decide +kernel, by decide +kernel⟩
abbrev s_entry_lines : Stmt := topS 38
abbrev N_entry_lines : List Str := ["names", "entry", "head", "tag", "tail", "inner", "line"]
theorem sc_entry_lines : FnScope N_entry_lines ["names", "entry", "head"] (defScope s_entry_lines) := ⟨rfl, rfl, rfl, by decide +kernel, rfl, by decide +kernel, by decide +kernel⟩
abbrev s_space_of_entry : Stmt := topS 39
abbrev N_space_of_entry : List Str := ["entry"]
theorem sc_space_of_entry : FnScope N_space_of_entry ["entry"] (defScope s_space_of_entry) := ⟨rfl, rfl, rfl, by decide +kernel, rfl, by decide +kernel, by decide +kernel⟩
abbrev s_level_lines : Stmt := topS 40
abbrev N_level_lines : List Str := ["names", "entries", "head", "lines", "k", "hidden", "later"]
theorem sc_level_lines : FnScope N_level_lines ["names", "entries", "head"] (defScope s_level_lines) := ⟨rfl, rfl, rfl, by decide +kernel, rfl, by decide +kernel, by decide +kernel⟩
abbrev s_report : Stmt := topS 41
abbrev N_report : List Str := ["entries", "names"]
theorem sc_report : FnScope N_report ["entries", "names"] (defScope s_report) := ⟨rfl, rfl, rfl, by decide +kernel, rfl, by decide +kernel, by decide +kernel⟩
abbrev s__law_same : Stmt := topS 59
abbrev N__law_same : List Str := ["a", "b", "k"]
theorem sc__law_same : FnScope N__law_same ["a", "b"] (defScope s__law_same) := ⟨rfl, rfl, rfl, by decide +kernel, rfl, by decide +kernel, by decide +kernel⟩
abbrev s__law_box : Stmt := topS 60
abbrev N__law_box : List Str := ["script", "nodes"]
theorem sc__law_box : FnScope N__law_box ["script", "nodes"] (defScope s__law_box) := ⟨rfl, rfl, rfl, by decide +kernel, rfl, by decide +kernel, by decide +kernel⟩
abbrev s__law_load : Stmt := topS 61
abbrev N__law_load : List Str := ["box", "cells", "cell", "size", "first", "second"]
theorem sc__law_load : FnScope N__law_load ["box"] (defScope s__law_load) := ⟨rfl, rfl, rfl, by decide +kernel, rfl, by decide +kernel, by decide +kernel⟩
abbrev s__law_draw : Stmt := topS 62
abbrev N__law_draw : List Str := ["box", "many", "digit"]
theorem sc__law_draw : FnScope N__law_draw ["box", "many"] (defScope s__law_draw) := ⟨rfl, rfl, rfl, by decide +kernel, rfl, by decide +kernel, by decide +kernel⟩
abbrev s__law_entry : Stmt := topS 63
abbrev N__law_entry : List Str := ["box", "stamps", "deep", "kind", "small", "capital", "v0", "v1", "some", "argument", "result", "inside", "k", "entry"]
theorem sc__law_entry : FnScope N__law_entry ["box", "stamps", "deep"] (defScope s__law_entry) := ⟨rfl, rfl, rfl, by decide +kernel, rfl, by decide +kernel, by decide +kernel⟩
abbrev s__law_space : Stmt := topS 64
abbrev N__law_space : List Str := ["entry"]
theorem sc__law_space : FnScope N__law_space ["entry"] (defScope s__law_space) := ⟨rfl, rfl, rfl, by decide +kernel, rfl, by decide +kernel, by decide +kernel⟩
abbrev s__law_kept : Stmt := topS 65
abbrev N__law_kept : List Str := ["entries", "kept", "k", "same", "e"]
theorem sc__law_kept : FnScope N__law_kept ["entries"] (defScope s__law_kept) := ⟨rfl, rfl, rfl, by decide +kernel, rfl, by decide +kernel, by decide +kernel⟩
abbrev s__law_paths : Stmt := topS 66
abbrev N__law_paths : List Str := ["entries", "head", "entry", "found"]
theorem sc__law_paths : FnScope N__law_paths ["entries", "head"] (defScope s__law_paths) := ⟨rfl, rfl, rfl, by decide +kernel, rfl, by decide +kernel, by decide +kernel⟩
abbrev s__law_found : Stmt := topS 67
abbrev N__law_found : List Str := ["names", "path", "level", "name", "below", "last", "entry"]
theorem sc__law_found : FnScope N__law_found ["names", "path"] (defScope s__law_found) := ⟨rfl, rfl, rfl, by decide +kernel, rfl, by decide +kernel, by decide +kernel⟩
abbrev s__law_is_name : Stmt := topS 68
abbrev N__law_is_name : List Str := ["names", "entry", "path", "identity", "other", "row", "plain", "k"]
theorem sc__law_is_name : FnScope N__law_is_name ["names", "entry", "path"] (defScope s__law_is_name) := ⟨rfl, rfl, rfl, by decide +kernel, rfl, by decide +kernel, by decide +kernel⟩
abbrev s__law_lines : Stmt := topS 69
abbrev N__law_lines : List Str := ["names", "entries", "head", "lines", "entry", "name", "shape", "front", "line"]
theorem sc__law_lines : FnScope N__law_lines ["names", "entries", "head"] (defScope s__law_lines) := ⟨rfl, rfl, rfl, by decide +kernel, rfl, by decide +kernel, by decide +kernel⟩
abbrev s_law : Stmt := topS 70
abbrev N_law : List Str := ["script", "box", "stamps", "entries", "names", "found", "k"]
theorem sc_law : FnScope N_law ["script"] (defScope s_law) := ⟨rfl, rfl, rfl, by decide +kernel, rfl, by decide +kernel, by decide +kernel⟩
structure Adr where
  f_direct_parts : Addr
  d_direct_parts : FuncData
  f_with_parts : Addr
  d_with_parts : FuncData
  f_within_bounds : Addr
  d_within_bounds : FuncData
  f_variables : Addr
  d_variables : FuncData
  f_replace_variables : Addr
  d_replace_variables : FuncData
  f_substitute : Addr
  d_substitute : FuncData
  f_space_of : Addr
  d_space_of : FuncData
  f_last_entry : Addr
  d_last_entry : FuncData
  f_lookup : Addr
  d_lookup : FuncData
  f_renumber : Addr
  d_renumber : FuncData
  f_constructor_scheme : Addr
  d_constructor_scheme : FuncData
  f_general_name : Addr
  d_general_name : FuncData
  f_parameters : Addr
  d_parameters : FuncData
  f_stamp_of : Addr
  d_stamp_of : FuncData
  f_shape_paths : Addr
  d_shape_paths : FuncData
  f_stamp_path : Addr
  d_stamp_path : FuncData
  f_stamp_text : Addr
  d_stamp_text : FuncData
  f_variable_text : Addr
  d_variable_text : FuncData
  f_enclosed : Addr
  d_enclosed : FuncData
  f_text_of : Addr
  d_text_of : FuncData
  f_shape_text : Addr
  d_shape_text : FuncData
  f_parameter_text : Addr
  d_parameter_text : FuncData
  f_shape_line : Addr
  d_shape_line : FuncData
  f_entry_lines : Addr
  d_entry_lines : FuncData
  f_space_of_entry : Addr
  d_space_of_entry : FuncData
  f_level_lines : Addr
  d_level_lines : FuncData
  f_report : Addr
  d_report : FuncData
  f__law_same : Addr
  d__law_same : FuncData
  f__law_box : Addr
  d__law_box : FuncData
  f__law_load : Addr
  d__law_load : FuncData
  f__law_draw : Addr
  d__law_draw : FuncData
  f__law_entry : Addr
  d__law_entry : FuncData
  f__law_space : Addr
  d__law_space : FuncData
  f__law_kept : Addr
  d__law_kept : FuncData
  f__law_paths : Addr
  d__law_paths : FuncData
  f__law_found : Addr
  d__law_found : FuncData
  f__law_is_name : Addr
  d__law_is_name : FuncData
  f__law_lines : Addr
  d__law_lines : FuncData
  f_law : Addr
  d_law : FuncData
  c_FREE : Tok
  c_MAX_SIZE : Tok
  c_MAX_DEPTH : Tok
  c_EXN : Addr
  c_LETTERS : Tok
  c_BASIS : Addr
structure Txt (K : PySem.W.Frag) (mg : Str → Option Value) (A : Adr) : Prop where
  F_direct_parts : Fun K "direct_parts" "direct_parts" s_direct_parts A.f_direct_parts A.d_direct_parts
  b_direct_parts : Binds K A.d_direct_parts ["shape"] []
  g_direct_parts : mg "direct_parts" = some (.ref A.f_direct_parts)
  F_with_parts : Fun K "with_parts" "with_parts" s_with_parts A.f_with_parts A.d_with_parts
  b_with_parts : Binds K A.d_with_parts ["shape", "new_parts"] []
  g_with_parts : mg "with_parts" = some (.ref A.f_with_parts)
  F_within_bounds : Fun K "within_bounds" "within_bounds" s_within_bounds A.f_within_bounds A.d_within_bounds
  b_within_bounds : Binds K A.d_within_bounds ["shape"] []
  g_within_bounds : mg "within_bounds" = some (.ref A.f_within_bounds)
  F_variables : Fun K "variables" "variables" s_variables A.f_variables A.d_variables
  b_variables : Binds K A.d_variables ["shape"] []
  g_variables : mg "variables" = some (.ref A.f_variables)
  F_replace_variables : Fun K "replace_variables" "replace_variables" s_replace_variables A.f_replace_variables A.d_replace_variables
  b_replace_variables : Binds K A.d_replace_variables ["shape", "mapping"] []
  g_replace_variables : mg "replace_variables" = some (.ref A.f_replace_variables)
  F_substitute : Fun K "substitute" "substitute" s_substitute A.f_substitute A.d_substitute
  b_substitute : Binds K A.d_substitute ["shape", "mapping"] []
  g_substitute : mg "substitute" = some (.ref A.f_substitute)
  F_space_of : Fun K "space_of" "space_of" s_space_of A.f_space_of A.d_space_of
  b_space_of : Binds K A.d_space_of ["entry"] []
  g_space_of : mg "space_of" = some (.ref A.f_space_of)
  F_last_entry : Fun K "last_entry" "last_entry" s_last_entry A.f_last_entry A.d_last_entry
  b_last_entry : Binds K A.d_last_entry ["entries", "space", "name"] []
  g_last_entry : mg "last_entry" = some (.ref A.f_last_entry)
  F_lookup : Fun K "lookup" "lookup" s_lookup A.f_lookup A.d_lookup
  b_lookup : Binds K A.d_lookup ["entries", "space", "path"] []
  g_lookup : mg "lookup" = some (.ref A.f_lookup)
  F_renumber : Fun K "renumber" "renumber" s_renumber A.f_renumber A.d_renumber
  b_renumber : Binds K A.d_renumber ["shape"] []
  g_renumber : mg "renumber" = some (.ref A.f_renumber)
  F_constructor_scheme : Fun K "constructor_scheme" "constructor_scheme" s_constructor_scheme A.f_constructor_scheme A.d_constructor_scheme
  b_constructor_scheme : Binds K A.d_constructor_scheme ["entry"] []
  g_constructor_scheme : mg "constructor_scheme" = some (.ref A.f_constructor_scheme)
  F_general_name : Fun K "general_name" "general_name" s_general_name A.f_general_name A.d_general_name
  b_general_name : Binds K A.d_general_name ["number"] []
  g_general_name : mg "general_name" = some (.ref A.f_general_name)
  F_parameters : Fun K "parameters" "parameters" s_parameters A.f_parameters A.d_parameters
  b_parameters : Binds K A.d_parameters ["k"] []
  g_parameters : mg "parameters" = some (.ref A.f_parameters)
  F_stamp_of : Fun K "stamp_of" "stamp_of" s_stamp_of A.f_stamp_of A.d_stamp_of
  b_stamp_of : Binds K A.d_stamp_of ["entry"] []
  g_stamp_of : mg "stamp_of" = some (.ref A.f_stamp_of)
  F_shape_paths : Fun K "shape_paths" "shape_paths" s_shape_paths A.f_shape_paths A.d_shape_paths
  b_shape_paths : Binds K A.d_shape_paths ["entries", "head"] []
  g_shape_paths : mg "shape_paths" = some (.ref A.f_shape_paths)
  F_stamp_path : Fun K "stamp_path" "stamp_path" s_stamp_path A.f_stamp_path A.d_stamp_path
  b_stamp_path : Binds K A.d_stamp_path ["names", "stamp"] []
  g_stamp_path : mg "stamp_path" = some (.ref A.f_stamp_path)
  F_stamp_text : Fun K "stamp_text" "stamp_text" s_stamp_text A.f_stamp_text A.d_stamp_text
  b_stamp_text : Binds K A.d_stamp_text ["names", "stamp"] []
  g_stamp_text : mg "stamp_text" = some (.ref A.f_stamp_text)
  F_variable_text : Fun K "variable_text" "variable_text" s_variable_text A.f_variable_text A.d_variable_text
  b_variable_text : Binds K A.d_variable_text ["number", "free"] []
  g_variable_text : mg "variable_text" = some (.ref A.f_variable_text)
  F_enclosed : Fun K "enclosed" "enclosed" s_enclosed A.f_enclosed A.d_enclosed
  b_enclosed : Binds K A.d_enclosed ["text", "shape", "tags"] []
  g_enclosed : mg "enclosed" = some (.ref A.f_enclosed)
  F_text_of : Fun K "text_of" "text_of" s_text_of A.f_text_of A.d_text_of
  b_text_of : Binds K A.d_text_of ["names", "shape", "free"] []
  g_text_of : mg "text_of" = some (.ref A.f_text_of)
  F_shape_text : Fun K "shape_text" "shape_text" s_shape_text A.f_shape_text A.d_shape_text
  b_shape_text : Binds K A.d_shape_text ["names", "shape"] []
  g_shape_text : mg "shape_text" = some (.ref A.f_shape_text)
  F_parameter_text : Fun K "parameter_text" "parameter_text" s_parameter_text A.f_parameter_text A.d_parameter_text
  b_parameter_text : Binds K A.d_parameter_text ["k"] []
  g_parameter_text : mg "parameter_text" = some (.ref A.f_parameter_text)
  F_shape_line : Fun K "shape_line" "shape_line" s_shape_line A.f_shape_line A.d_shape_line
  b_shape_line : Binds K A.d_shape_line ["names", "entry", "head"] []
  g_shape_line : mg "shape_line" = some (.ref A.f_shape_line)
  F_entry_lines : Fun K "entry_lines" "entry_lines" s_entry_lines A.f_entry_lines A.d_entry_lines
  b_entry_lines : Binds K A.d_entry_lines ["names", "entry", "head"] []
  g_entry_lines : mg "entry_lines" = some (.ref A.f_entry_lines)
  F_space_of_entry : Fun K "space_of_entry" "space_of_entry" s_space_of_entry A.f_space_of_entry A.d_space_of_entry
  b_space_of_entry : Binds K A.d_space_of_entry ["entry"] []
  g_space_of_entry : mg "space_of_entry" = some (.ref A.f_space_of_entry)
  F_level_lines : Fun K "level_lines" "level_lines" s_level_lines A.f_level_lines A.d_level_lines
  b_level_lines : Binds K A.d_level_lines ["names", "entries", "head"] []
  g_level_lines : mg "level_lines" = some (.ref A.f_level_lines)
  F_report : Fun K "report" "report" s_report A.f_report A.d_report
  b_report : Binds K A.d_report ["entries", "names"] []
  g_report : mg "report" = some (.ref A.f_report)
  F__law_same : Fun K "_law_same" "_law_same" s__law_same A.f__law_same A.d__law_same
  b__law_same : Binds K A.d__law_same ["a", "b"] []
  g__law_same : mg "_law_same" = some (.ref A.f__law_same)
  F__law_box : Fun K "_law_box" "_law_box" s__law_box A.f__law_box A.d__law_box
  b__law_box : Binds K A.d__law_box ["script", "nodes"] []
  g__law_box : mg "_law_box" = some (.ref A.f__law_box)
  F__law_load : Fun K "_law_load" "_law_load" s__law_load A.f__law_load A.d__law_load
  b__law_load : Binds K A.d__law_load ["box"] []
  g__law_load : mg "_law_load" = some (.ref A.f__law_load)
  F__law_draw : Fun K "_law_draw" "_law_draw" s__law_draw A.f__law_draw A.d__law_draw
  b__law_draw : Binds K A.d__law_draw ["box", "many"] []
  g__law_draw : mg "_law_draw" = some (.ref A.f__law_draw)
  F__law_entry : Fun K "_law_entry" "_law_entry" s__law_entry A.f__law_entry A.d__law_entry
  b__law_entry : Binds K A.d__law_entry ["box", "stamps", "deep"] []
  g__law_entry : mg "_law_entry" = some (.ref A.f__law_entry)
  F__law_space : Fun K "_law_space" "_law_space" s__law_space A.f__law_space A.d__law_space
  b__law_space : Binds K A.d__law_space ["entry"] []
  g__law_space : mg "_law_space" = some (.ref A.f__law_space)
  F__law_kept : Fun K "_law_kept" "_law_kept" s__law_kept A.f__law_kept A.d__law_kept
  b__law_kept : Binds K A.d__law_kept ["entries"] []
  g__law_kept : mg "_law_kept" = some (.ref A.f__law_kept)
  F__law_paths : Fun K "_law_paths" "_law_paths" s__law_paths A.f__law_paths A.d__law_paths
  b__law_paths : Binds K A.d__law_paths ["entries", "head"] []
  g__law_paths : mg "_law_paths" = some (.ref A.f__law_paths)
  F__law_found : Fun K "_law_found" "_law_found" s__law_found A.f__law_found A.d__law_found
  b__law_found : Binds K A.d__law_found ["names", "path"] []
  g__law_found : mg "_law_found" = some (.ref A.f__law_found)
  F__law_is_name : Fun K "_law_is_name" "_law_is_name" s__law_is_name A.f__law_is_name A.d__law_is_name
  b__law_is_name : Binds K A.d__law_is_name ["names", "entry", "path"] []
  g__law_is_name : mg "_law_is_name" = some (.ref A.f__law_is_name)
  F__law_lines : Fun K "_law_lines" "_law_lines" s__law_lines A.f__law_lines A.d__law_lines
  b__law_lines : Binds K A.d__law_lines ["names", "entries", "head"] []
  g__law_lines : mg "_law_lines" = some (.ref A.f__law_lines)
  F_law : Fun K "law" "law" s_law A.f_law A.d_law
  b_law : Binds K A.d_law ["script"] []
  g_law : mg "law" = some (.ref A.f_law)
  g_FREE : mg "FREE" = some (.int 1000000 A.c_FREE)
  g_MAX_SIZE : mg "MAX_SIZE" = some (.int 2000 A.c_MAX_SIZE)
  g_MAX_DEPTH : mg "MAX_DEPTH" = some (.int 100 A.c_MAX_DEPTH)
  g_EXN : mg "EXN" = some (.ref A.c_EXN)
  y_EXN : ∀ H, GD.Rp K H (.ref A.c_EXN) EXN_D
  g_LETTERS : mg "LETTERS" = some (.str "abcdefghijklmnopqrstuvwxyz" A.c_LETTERS)
  g_BASIS : mg "BASIS" = some (.ref A.c_BASIS)
  y_BASIS : ∀ H, GD.Rp K H (.ref A.c_BASIS) BASIS_D
  n_bool : mg "bool" = none
  n_int : mg "int" = none
  n_isinstance : mg "isinstance" = none
  n_len : mg "len" = none
  n_list : mg "list" = none
  n_range : mg "range" = none
  n_reversed : mg "reversed" = none
  n_str : mg "str" = none
  n_tuple : mg "tuple" = none
end K87

set_option Elab.async false
set_option maxRecDepth 100000
set_option linter.all false
set_option maxHeartbeats 4000000
namespace K87
open PySem L2 GD
section
variable {P : Program} {w : World} {K : PySem.W.Frag} {mg : Str → Option Value} {base : Heap} {A : Adr}
abbrev nums (ns : List Int) : List V := ns.map V.int
/-- but for two -/
def Bx (b c : Addr) (H H' : Hp) : Prop := ∀ a, a ≠ b → a ≠ c → H' a = H a
theorem Bx.refl {b c : Addr} {H : Hp} : Bx b c H H := fun _ _ _ => rfl
theorem Bx.trans {b c : Addr} {H H1 H2 : Hp} (h : Bx b c H H1) (k : Bx b c H1 H2) : Bx b c H H2 := fun a n1 n2 => (k a n1 n2).trans (h a n1 n2)
theorem Bx.upd1 {b c : Addr} {H : Hp} {o : HO} : Bx b c H (upd H b o) := fun a n _ => upd_ne n
theorem Bx.upd2 {b c : Addr} {H : Hp} {o : HO} : Bx b c H (upd H c o) := fun a _ n => upd_ne n
def BoxAt (H : Hp) (b c : Addr) : Prop := ∃ (ns : List Int) (n m k : Int), H b = some (.lst [.ref c, .int n, .int m, .int k]) ∧ H c = some (.lst (nums ns)) ∧ ns.length ≤ 63
theorem BoxAt.ne {H : Hp} {b c : Addr} (h : BoxAt H b c) : b ≠ c := by
  obtain ⟨ns, n, m, k, h1, h2, _⟩ := h
  refine ne_of h1 h2 fun e => ?_
  cases ns with
  | nil => cases e
  | cons x r => cases e
theorem BoxAt.keep {H H' : Hp} {b c : Addr} (h : BoxAt H b c) (k : ∀ a o, H a = some o → (a = b ∨ a = c) → H' a = some o) : BoxAt H' b c := by
  obtain ⟨ns, n, m, k0, h1, h2, h3⟩ := h
  exact ⟨ns, n, m, k0, k _ _ h1 (.inl rfl), k _ _ h2 (.inr rfl), h3⟩
theorem BoxAt.kt {H H' : Hp} {b c : Addr} (h : BoxAt H b c) (k : Bx b c H H') : KT H H' := by
  obtain ⟨ns, n, m, k0, h1, h2, h3⟩ := h
  intro a xs q
  have n1 : a ≠ b := fun z => NT.lst h1 xs (by rw [z] at q; exact q)
  have n2 : a ≠ c := fun z => NT.lst h2 xs (by rw [z] at q; exact q)
  unfold Rd
  rw [k a n1 n2]
  exact q
theorem BoxAt.at_b {H : Hp} {b c : Addr} (h : BoxAt H b c) : ∃ o, H b = some o := let ⟨_, _, _, _, e, _⟩ := h; ⟨_, e⟩
theorem BoxAt.at_c {H : Hp} {b c : Addr} (h : BoxAt H b c) : ∃ o, H c = some o := let ⟨_, _, _, _, _, e, _⟩ := h; ⟨_, e⟩
def spBox (K : PySem.W.Frag) : Sp := fun vs H Q _ => ∃ (a : Addr) (ns : List Int) (k : Int), vs = [.ref a, .int k] ∧ SqL K H a (nums ns) ∧ ns.length ≤ 63 ∧
  ∀ (b c : Addr) (H' : Hp), H b = none → H c = none → (∀ a o, H a = some o → H' a = some o) → BoxAt H' b c → Q (.ref b) H'
theorem ok__law_box (T : Txt K mg A) : FnOk P w K mg base CX0 1 A.f__law_box A.d__law_box ["script", "nodes"] (spBox K) := by
  refine T.F__law_box.ok sc__law_box (fun vs H Q E h => ?_) (fun cdv Ar outer s H vs Q E hr h => ?_)
  · obtain ⟨a, ns, k, rfl, _⟩ := h
    rfl
  · obtain ⟨a, ns, n, rfl, hS, hl, k⟩ := h
    refine ⟨_, (pss_one (ps_ret (pe_lst (pa_cons (pe_callTy call_list_of (by rfl) T.n_list (by decide +kernel) (pa_cons (pv 0) pa_nil)) (pa_cons pe_int (pa_cons (pe_op op_add pe_int (pe_callB call_len_seq (by rfl) T.n_len PySem.boot_len (pa_cons (pv 0) pa_nil))) (pa_cons (pv 1) pa_nil))))))), ?_⟩
    refine ⟨_, rfl, a, _, rfl, .inl hS, fun c hc => ?_⟩
    have nac : ∀ o, H a = some o → a ≠ c := fun o e => ne_of_none e hc
    have hS2 : SqL K (upd H c (.lst (nums ns))) a (nums ns) := by
      rcases hS with hS | hS
      · refine .inl ?_
        rcases hS with e | ⟨o, e⟩
        · exact .inl (by rw [upd_ne (ne_of_none e hc)]; exact e)
        · exact .inr ⟨o, by rw [upd_ne (ne_of_none e hc)]; exact e⟩
      · exact .inr hS
    refine ⟨_, rfl, a, _, rfl, .inl hS2, _, _, rfl, rfl, _, rfl, (show 4 ≤ sizeLine by decide), fun b hb => ?_⟩
    have ncb : c ≠ b := ne_of_none upd_same hb
    have hb0 : H b = none := by rw [upd_ne ncb.symm] at hb; exact hb
    refine k b c _ hb0 hc (fun x o e => ?_) ⟨ns, 0, 4711 + ((nums ns).length : Int), n, upd_same, ?_, hl⟩
    · rw [upd_ne (ne_of_none e hb0), upd_ne (ne_of_none e hc)]
      exact e
    · rw [upd_ne ncb, upd_same]
def spLoad : Sp := fun vs H Q _ => ∃ (b c : Addr), vs = [.ref b] ∧ BoxAt H b c ∧ ∀ (r : Int) (H' : Hp), Bx b c H H' → BoxAt H' b c → Q (.int r) H'
theorem ok__law_load (T : Txt K mg A) : FnOk P w K mg base CX0 1 A.f__law_load A.d__law_load ["box"] spLoad := by
  refine T.F__law_load.ok sc__law_load (fun vs H Q E h => ?_) (fun cdv Ar outer s H vs Q E hr h => ?_)
  · obtain ⟨b, c, rfl, _⟩ := h
    rfl
  · obtain ⟨b, c, rfl, hB, k⟩ := h
    have nbc := hB.ne
    obtain ⟨ns, n, m, k0, hb, hc, hl⟩ := hB
    refine ⟨_, (pss_cons (ps_set (i := 1) sc__law_load.nd rfl (Or.inl rfl) (pe_ix (ixl (K := K) rfl) (pv 0) pe_int (fun _ _ => rfl))) (Evl.pss_cut (ps_if (pt_cmpR op_gt (pe_callB call_len_seq (by rfl) T.n_len PySem.boot_len (pa_cons (pv 1) pa_nil)) pe_int (nomark _)) (pss_cons (ps_set (i := 2) sc__law_load.nd rfl (Or.inl rfl) (pe_callTy call_int1 (by rfl) T.n_int (by decide +kernel) (pa_cons (pe_bm PySem.F.plainAttrs_list PySem.F.slot_list_pop PySem.F.type_list_pop mt_popAt (pv 1) (pa_cons pe_int pa_nil)) pa_nil))) (pss_cons (ps_set (i := 3) sc__law_load.nd rfl (Or.inl rfl) (pe_ifExp (pt_cmpR op_ge (pv 2) pe_int (nomark _)) (pe_op op_mul pe_int (pv 2)) (pe_op op_sub (pe_op op_mul (pe_un un_neg pe_int) (pv 2)) pe_int))) (pss_cons (ps_if (pt_cmpR op_ge (pv 3) pe_int (nomark _)) (pss_one (ps_ret (pv 3))) pss_nil) (pss_one (ps_asg (pe_op op_mod (pe_callTy call_int1 (by rfl) T.n_int (by decide +kernel) (pa_cons (pe_op op_add (pe_op op_add (pe_op op_mul (pe_ix (ixl (K := K) rfl) (pv 0) pe_int (fun _ _ => rfl)) pe_int) (pe_op op_mul (pv 3) pe_int)) pe_int) pa_nil)) pe_int) (pg_sub (pv 0) pe_int set_list)))))) pss_nil) (pss_cons (ps_set (i := 4) sc__law_load.nd rfl (Or.inl rfl) (pe_op op_mod (pe_callTy call_int1 (by rfl) T.n_int (by decide +kernel) (pa_cons (pe_op op_add (pe_op op_mul (pe_ix (ixl (K := K) rfl) (pv 0) pe_int (fun _ _ => rfl)) pe_int) pe_int) pa_nil)) pe_int)) (pss_cons (ps_set (i := 5) sc__law_load.nd rfl (Or.inl rfl) (pe_op op_mod (pe_callTy call_int1 (by rfl) T.n_int (by decide +kernel) (pa_cons (pe_op op_add (pe_op op_mul (pv 4) pe_int) pe_int) pa_nil)) pe_int)) (pss_cons (ps_asg (pe_op op_mod (pe_callTy call_int1 (by rfl) T.n_int (by decide +kernel) (pa_cons (pe_op op_add (pe_op op_mul (pv 5) pe_int) pe_int) pa_nil)) pe_int) (pg_sub (pv 0) pe_int set_list)) (pss_one (ps_ret (pe_op op_add (pe_op op_add (pe_op op_mul (pv 4) pe_int) (pe_op op_mul (pv 5) pe_int)) (pe_ix (ixl (K := K) rfl) (pv 0) pe_int (fun _ _ => rfl)))))))))), ?_⟩
    refine ⟨_, rfl, b, _, _, _, rfl, rfl, SqL.of hb, rfl, ?_⟩
    refine ⟨fun σ' H' => ∃ (v2 v3 : Option V), σ' = [some (.ref b), some (.ref c), v2, v3, none, none] ∧ Bx b c H H' ∧ BoxAt H' b c, ?_, ?_⟩
    · refine ⟨_, rfl, c, _, rfl, .inl (SqL.of hc), _, _, rfl, rfl, _, rfl, ite2 (fun c1 => ?_) (fun c1 => ?_)⟩
      · cases ns with
        | nil => cases (of_decide_eq_true c1 : (0 : Int) < ((nums ([] : List Int)).length : Int))
        | cons x ns' =>
          refine ⟨_, rfl, .inl ⟨rfl, _, SqL.of hc⟩, c, _, 0, 0, .int x, rfl, rfl, hc, by decide, by decide, (ixN_seq (n := (nums (x :: ns')).length) (i := 0) (j := 0) (by unfold ixN; rw [if_pos (by decide), if_pos (by simp only [List.length_map, List.length_cons]; omega)]; rfl)).1, rfl, .inl ⟨_, rfl, ?_⟩⟩
          have hb1 : ∀ o : HO, (upd H c o) b = some (.lst [.ref c, .int n, .int m, .int k0]) := fun o => by rw [upd_ne nbc]; exact hb
          have hl' : ns'.length ≤ 63 := by have := hl; simp only [List.length_cons] at this; omega
          refine ⟨_, rfl, _, _, rfl, rfl, _, rfl, ite2 (fun c2 => ?_) (fun c2 => ?_)⟩
          all_goals
            first
              | refine ⟨_, rfl, _, _, rfl, rfl, .inl ⟨by decide, by decide⟩, ?_⟩
              | refine ⟨_, rfl, _, rfl, _, _, rfl, rfl, .inl ⟨by decide, by decide⟩, _, _, rfl, rfl, ?_⟩
            refine ⟨_, rfl, _, _, rfl, rfl, _, rfl, ite2 (fun c3 => ?_) (fun c3 => ?_)⟩
            · exact ⟨_, rfl, k _ _ .upd2 ⟨ns', n, m, k0, hb1 _, upd_same, hl'⟩⟩
            · refine ⟨_, rfl, b, _, _, _, rfl, rfl, SqL.of (hb1 _), rfl, _, _, rfl, rfl, .inr ⟨by decide, by decide⟩, _, rfl, _, _, rfl, rfl, .inr ⟨by decide, by decide⟩, _, _, rfl, rfl, _, _, rfl, rfl, .inl ⟨_, rfl, _, _, rfl, rfl, (show (0 : Int) < 2147483647 by decide), ?_⟩⟩
              refine ⟨_, rfl, b, _, _, 2, rfl, rfl, hb1 _, rfl, _, _, rfl, Bx.upd2.trans .upd1, ns', n, _, k0, upd_same, ?_, hl'⟩
              rw [upd_ne nbc.symm, upd_same]
              rfl
      · exact ⟨none, none, rfl, .refl, ns, n, m, k0, hb, hc, hl⟩
    · rintro σ' H1 ⟨v2, v3, rfl, hB1, ns1, n1, m1, k1, hb1, hc1, hl1⟩
      have h0 := Int.emod_nonneg (m1 * 48271 + 17) (show (2147483629 : Int) ≠ 0 by decide)
      refine ⟨_, rfl, b, _, _, _, rfl, rfl, SqL.of hb1, rfl, _, _, rfl, rfl, .inr ⟨by decide, by decide⟩, _, _, rfl, rfl, .inl ⟨_, rfl, _, _, rfl, rfl, (show (0 : Int) < 2147483629 by decide), ?_⟩⟩
      refine ⟨_, rfl, _, _, rfl, rfl, .inr ⟨by decide, by decide⟩, _, _, rfl, rfl, .inl ⟨_, rfl, _, _, rfl, rfl, (show (0 : Int) < 2147483587 by decide), ?_⟩⟩
      refine ⟨_, rfl, _, _, rfl, rfl, .inr ⟨by decide, by decide⟩, _, _, rfl, rfl, .inl ⟨_, rfl, _, _, rfl, rfl, (show (0 : Int) < 2147483563 by decide), ?_⟩⟩
      refine ⟨_, rfl, b, _, _, 2, rfl, rfl, hb1, rfl, ?_⟩
      refine ⟨_, rfl, _, _, rfl, rfl, .inr ⟨by decide, by decide⟩, _, rfl, _, _, rfl, rfl, .inr ⟨by decide, by decide⟩, _, _, rfl, rfl, _, rfl, b, _, _, _, rfl, rfl, SqL.of upd_same, rfl, _, _, rfl, rfl, ?_⟩
      exact k _ _ (hB1.trans .upd1) ⟨ns1, n1, _, k1, upd_same, by rw [upd_ne nbc.symm]; exact hc1, hl1⟩
def spDraw : Sp := fun vs H Q _ => ∃ (b c : Addr) (many : Int), vs = [.ref b, .int many] ∧ 0 < many ∧ many < 1073741824 ∧ BoxAt H b c ∧ ∀ (r : Int) (H' : Hp), 0 ≤ r → r < many → Bx b c H H' → BoxAt H' b c → Q (.int r) H'
theorem ok__law_draw (T : Txt K mg A) : FnOk P w K mg base CX0 2 A.f__law_draw A.d__law_draw ["box", "many"] spDraw := by
  have G__law_load : FnOk P w K mg base CX0 1 A.f__law_load A.d__law_load _ _ := ok__law_load T
  refine T.F__law_draw.ok sc__law_draw (fun vs H Q E h => ?_) (fun cdv Ar outer s H vs Q E hr h => ?_)
  · obtain ⟨b, c, many, rfl, _⟩ := h
    rfl
  · obtain ⟨b, c, many, rfl, hm0, hm1, hB, k⟩ := h
    have nbc := hB.ne
    refine ⟨_, (Evl.pss_cut (ps_if (pt_cmpR op_lt (pe_ix (ixl (K := K) rfl) (pv 0) pe_int (fun _ _ => rfl)) (pv 1) (nomark _)) (pss_one (ps_asg (pe_call G__law_load (hr.mono (by first | decide | omega)) rfl T.g__law_load T.F__law_load.kp T.b__law_load .nil pass0 (pa_cons (pv 0) pa_nil)) (pg_sub (pv 0) pe_int set_list))) pss_nil) (pss_cons (ps_set (i := 2) sc__law_draw.nd rfl (Or.inl rfl) (pe_op op_mod (pe_callTy call_int1 (by rfl) T.n_int (by decide +kernel) (pa_cons (pe_ix (ixl (K := K) rfl) (pv 0) pe_int (fun _ _ => rfl)) pa_nil)) (pv 1))) (pss_cons (ps_asg (pe_op op_fdiv (pe_ix (ixl (K := K) rfl) (pv 0) pe_int (fun _ _ => rfl)) (pv 1)) (pg_sub (pv 0) pe_int set_list)) (pss_one (ps_ret (pv 2)))))), ?_⟩
    refine ⟨fun σ' H' => σ' = [some (.ref b), some (.int many), none] ∧ Bx b c H H' ∧ BoxAt H' b c, ?_, ?_⟩
    · have hB0 := hB
      obtain ⟨ns, n, m, k0, hb, hc, hl⟩ := hB
      refine ⟨_, rfl, b, _, _, _, rfl, rfl, SqL.of hb, rfl, _, rfl, _, _, rfl, rfl, _, rfl, ite2 (fun c1 => ?_) (fun c1 => ?_)⟩
      · refine ⟨_, rfl, b, c, rfl, hB0, fun r H1 hB1 ⟨ns1, n1, m1, k1, hb1, hc1, hl1⟩ => ?_⟩
        refine ⟨_, rfl, b, _, _, 1, rfl, rfl, hb1, rfl, rfl, hB1.trans .upd1, ns1, r, m1, k1, upd_same, by rw [upd_ne nbc.symm]; exact hc1, hl1⟩
      · exact ⟨rfl, .refl, hB0⟩
    · rintro σ' H1 ⟨rfl, hB1, ns, n, m, k0, hb, hc, hl⟩
      refine ⟨_, rfl, b, _, _, _, rfl, rfl, SqL.of hb, rfl, .inl ⟨_, rfl, _, rfl, _, _, rfl, rfl, hm0, ?_⟩⟩
      refine ⟨_, rfl, b, _, _, _, rfl, rfl, SqL.of hb, rfl, _, rfl, _, _, rfl, rfl, ⟨hm0, hm1⟩, _, rfl, b, _, _, 1, rfl, rfl, hb, rfl, ?_⟩
      exact ⟨_, rfl, k _ _ (Int.emod_nonneg _ (by omega)) (Int.emod_lt_of_pos _ hm0) (hB1.trans .upd1) ⟨ns, n / many, m, k0, upd_same, by rw [upd_ne nbc.symm]; exact hc, hl⟩⟩
end
end K87

set_option Elab.async false
set_option maxRecDepth 100000
set_option linter.all false
set_option maxHeartbeats 4000000
namespace K87
open PySem L2 GD AG
section
variable {P : Program} {w : World} {K : PySem.W.Frag} {mg : Str → Option Value} {base : Heap} {A : Adr}
abbrev Sm (H H' : Hp) : Prop := ∀ a o, H a = some o → H' a = some o
theorem Sm.new {H : Hp} {p : Addr} {o : HO} (h : H p = none) : Sm H (upd H p o) := fun a u e => by
  rw [upd_ne (ne_of_none e h)]
  exact e
theorem Sm.on {H H1 : Hp} {p : Addr} {o : HO} (s : Sm H H1) (h : H1 p = none) : Sm H (upd H1 p o) := fun a u e => Sm.new h a u (s a u e)
theorem Sm.free {H H1 : Hp} {p : Addr} (s : Sm H H1) (h : H1 p = none) : H p = none := by
  cases e : H p with
  | none => rfl
  | some o =>
    rw [s _ _ e] at h
    cases h
/-- an object that was not there changes -/
theorem Sm.upd {H H1 : Hp} {p : Addr} {o : HO} (s : Sm H H1) (h : H p = none) : Sm H (L2.upd H1 p o) := fun a u e => by
  rw [upd_ne (ne_of_none e h)]
  exact s a u e
def spParts (K : PySem.W.Frag) : Sp := fun vs H Q _ => ∃ (x : V) (sh : Sh), vs = [x] ∧ Rp K H x sh.d ∧ ∀ (a : Addr) (ys : List V) (H' : Hp), Sm H H' → SqT K H' a ys → RpAll K H' ys (Sh.ds sh.parts) → Q (.ref a) H'
theorem ok_parts (T : Txt K mg A) : FnOk P w K mg base CX0 1 A.f_direct_parts A.d_direct_parts ["shape"] (spParts K) := by
  refine T.F_direct_parts.ok sc_direct_parts (fun vs H Q E h => ?_) (fun cdv Ar outer s H vs Q E hr h => ?_)
  · obtain ⟨x, sh, rfl, _⟩ := h
    rfl
  · obtain ⟨x, sh, rfl, hx, k⟩ := h
    refine ⟨_, (pss_cons (ps_if (pt_cmpR op_eq (pe_ix (ixt (K := K) rfl) (pv 0) pe_int (fun _ _ => rfl)) pe_str (nomark _)) (pss_one (ps_ret (pe_tup pa_nil))) pss_nil) (pss_cons (ps_if (pt_cmpR op_eq (pe_ix (ixt (K := K) rfl) (pv 0) pe_int (fun _ _ => rfl)) pe_str (nomark _)) (pss_one (ps_ret (pe_ix (ixt (K := K) rfl) (pv 0) pe_int (fun _ _ => rfl)))) pss_nil) (pss_cons (ps_if (pt_cmpR op_eq (pe_ix (ixt (K := K) rfl) (pv 0) pe_int (fun _ _ => rfl)) pe_str (nomark _)) (pss_one (ps_ret (pe_ix (ixt (K := K) rfl) (pv 0) pe_int (fun _ _ => rfl)))) pss_nil) (pss_one (ps_ret (pe_tup (pa_cons (pe_ix (ixt (K := K) rfl) (pv 0) pe_int (fun _ _ => rfl)) (pa_cons (pe_ix (ixt (K := K) rfl) (pv 0) pe_int (fun _ _ => rfl)) pa_nil)))))))), ?_⟩
    cases sh with
    | v n =>
      obtain ⟨a, rfl, hs⟩ := inv_v hx
      refine ⟨_, rfl, a, _, _, _, rfl, rfl, hs, rfl, rfl, _, rfl, iteY (by decide +kernel) ?_⟩
      refine ⟨Nat.zero_le _, fun p hp => ?_⟩
      exact k p [] _ (Sm.new hp) (.inl (Rd.of upd_same)) .nil
    | c n l =>
      obtain ⟨a, g, gs, rfl, hs, hg, hl⟩ := inv_c hx
      refine ⟨_, rfl, a, _, _, _, rfl, rfl, hs, rfl, rfl, _, rfl, iteN (by decide +kernel) ?_⟩
      refine ⟨_, rfl, a, _, _, _, rfl, rfl, hs, rfl, rfl, _, rfl, iteY (by decide +kernel) ?_⟩
      exact ⟨_, rfl, a, _, _, _, rfl, rfl, hs, rfl, k g gs H (fun _ _ e => e) hg hl⟩
    | t l =>
      obtain ⟨a, g, gs, rfl, hs, hg, hl⟩ := inv_t hx
      refine ⟨_, rfl, a, _, _, _, rfl, rfl, hs, rfl, rfl, _, rfl, iteN (by decide +kernel) ?_⟩
      refine ⟨_, rfl, a, _, _, _, rfl, rfl, hs, rfl, rfl, _, rfl, iteN (by decide +kernel) ?_⟩
      refine ⟨_, rfl, a, _, _, _, rfl, rfl, hs, rfl, rfl, _, rfl, iteY (by decide +kernel) ?_⟩
      exact ⟨_, rfl, a, _, _, _, rfl, rfl, hs, rfl, k g gs H (fun _ _ e => e) hg hl⟩
    | f y z =>
      obtain ⟨a, v1, v2, rfl, hs, h1, h2⟩ := inv_f hx
      refine ⟨_, rfl, a, _, _, _, rfl, rfl, hs, rfl, rfl, _, rfl, iteN (by decide +kernel) ?_⟩
      refine ⟨_, rfl, a, _, _, _, rfl, rfl, hs, rfl, rfl, _, rfl, iteN (by decide +kernel) ?_⟩
      refine ⟨_, rfl, a, _, _, _, rfl, rfl, hs, rfl, rfl, _, rfl, iteN (by decide +kernel) ?_⟩
      refine ⟨_, rfl, a, _, _, _, rfl, rfl, hs, rfl, _, rfl, a, _, _, _, rfl, rfl, hs, rfl, (show 2 ≤ sizeLine by decide), fun p hp => ?_⟩
      have kt := KT.upd_new (o := .tup [v1, v2]) hp
      refine k p [v1, v2] _ (Sm.new hp) (.inl (Rd.of upd_same)) ?_
      exact .cons (h1.on kt) (.cons (h2.on kt) .nil)
def spWith (K : PySem.W.Frag) : Sp := fun vs H Q _ => ∃ (x : V) (sh : Sh) (g : Addr) (gs : List V) (l : List Sh), vs = [x, .ref g] ∧ Rp K H x sh.d ∧ SqT K H g gs ∧ RpAll K H gs (Sh.ds l) ∧ l.length = sh.parts.length ∧
  ∀ (r : V) (H' : Hp), Sm H H' → Rp K H' r (sh.withP l).d → Q r H'
theorem ok_with (T : Txt K mg A) : FnOk P w K mg base CX0 1 A.f_with_parts A.d_with_parts ["shape", "new_parts"] (spWith K) := by
  refine T.F_with_parts.ok sc_with_parts (fun vs H Q E h => ?_) (fun cdv Ar outer s H vs Q E hr h => ?_)
  · obtain ⟨x, sh, g, gs, l, rfl, _⟩ := h
    rfl
  · obtain ⟨x, sh, g, gs, l, rfl, hx, hg, hl, hn, k⟩ := h
    refine ⟨_, (pss_cons (ps_if (pt_cmpR op_eq (pe_ix (ixt (K := K) rfl) (pv 0) pe_int (fun _ _ => rfl)) pe_str (nomark _)) (pss_one (ps_ret (pv 0))) pss_nil) (pss_cons (ps_if (pt_cmpR op_eq (pe_ix (ixt (K := K) rfl) (pv 0) pe_int (fun _ _ => rfl)) pe_str (nomark _)) (pss_one (ps_ret (pe_tup (pa_cons pe_str (pa_cons (pe_ix (ixt (K := K) rfl) (pv 0) pe_int (fun _ _ => rfl)) (pa_cons (pv 1) pa_nil)))))) pss_nil) (pss_cons (ps_if (pt_cmpR op_eq (pe_ix (ixt (K := K) rfl) (pv 0) pe_int (fun _ _ => rfl)) pe_str (nomark _)) (pss_one (ps_ret (pe_tup (pa_cons pe_str (pa_cons (pv 1) pa_nil))))) pss_nil) (pss_one (ps_ret (pe_tup (pa_cons pe_str (pa_cons (pe_ix (ixt (K := K) rfl) (pv 1) pe_int (fun _ _ => rfl)) (pa_cons (pe_ix (ixt (K := K) rfl) (pv 1) pe_int (fun _ _ => rfl)) pa_nil))))))))), ?_⟩
    cases sh with
    | v n =>
      have hx0 := hx
      obtain ⟨a, rfl, hs⟩ := inv_v hx
      refine ⟨_, rfl, a, _, _, _, rfl, rfl, hs, rfl, rfl, _, rfl, iteY (by decide +kernel) ?_⟩
      exact ⟨_, rfl, k _ _ (fun _ _ e => e) hx0⟩
    | c n l0 =>
      obtain ⟨a, g0, gs0, rfl, hs, _, _⟩ := inv_c hx
      refine ⟨_, rfl, a, _, _, _, rfl, rfl, hs, rfl, rfl, _, rfl, iteN (by decide +kernel) ?_⟩
      refine ⟨_, rfl, a, _, _, _, rfl, rfl, hs, rfl, rfl, _, rfl, iteY (by decide +kernel) ?_⟩
      refine ⟨_, rfl, a, _, _, _, rfl, rfl, hs, rfl, _, rfl, (show 3 ≤ sizeLine by decide), fun p hp => ?_⟩
      refine k _ _ (Sm.new hp) ?_
      simp only [Sh.withP, Sh.d]
      have kt := KT.upd_new (o := .tup [.str "c", .int n, .ref g]) hp
      exact Rp.mk upd_same (.cons (.str _ (by decide +kernel)) (.cons (.int _) (.cons (.tup (kt.sqt hg) (hl.on kt)) .nil)))
    | t l0 =>
      obtain ⟨a, g0, gs0, rfl, hs, _, _⟩ := inv_t hx
      refine ⟨_, rfl, a, _, _, _, rfl, rfl, hs, rfl, rfl, _, rfl, iteN (by decide +kernel) ?_⟩
      refine ⟨_, rfl, a, _, _, _, rfl, rfl, hs, rfl, rfl, _, rfl, iteN (by decide +kernel) ?_⟩
      refine ⟨_, rfl, a, _, _, _, rfl, rfl, hs, rfl, rfl, _, rfl, iteY (by decide +kernel) ?_⟩
      refine ⟨_, rfl, (show 2 ≤ sizeLine by decide), fun p hp => ?_⟩
      refine k _ _ (Sm.new hp) ?_
      simp only [Sh.withP, Sh.d]
      have kt := KT.upd_new (o := .tup [.str "t", .ref g]) hp
      exact Rp.mk upd_same (.cons (.str _ (by decide +kernel)) (.cons (.tup (kt.sqt hg) (hl.on kt)) .nil))
    | f y z =>
      obtain ⟨a, v1, v2, rfl, hs, _, _⟩ := inv_f hx
      match l, hn, hl with
      | [l1, l2], _, hl =>
        simp only [Sh.ds] at hl
        obtain ⟨y1, w1, rfl, q1, hl⟩ := hl.cons_inv
        obtain ⟨y2, w2, rfl, q2, hl⟩ := hl.cons_inv
        have er := RpAll.nil_inv hl
        subst er
        refine ⟨_, rfl, a, _, _, _, rfl, rfl, hs, rfl, rfl, _, rfl, iteN (by decide +kernel) ?_⟩
        refine ⟨_, rfl, a, _, _, _, rfl, rfl, hs, rfl, rfl, _, rfl, iteN (by decide +kernel) ?_⟩
        refine ⟨_, rfl, a, _, _, _, rfl, rfl, hs, rfl, rfl, _, rfl, iteN (by decide +kernel) ?_⟩
        refine ⟨_, rfl, g, _, _, _, rfl, rfl, hg, rfl, _, rfl, g, _, _, _, rfl, rfl, hg, rfl, (show 3 ≤ sizeLine by decide), fun p hp => ?_⟩
        refine k _ _ (Sm.new hp) ?_
        simp only [Sh.withP, Sh.d]
        have kt := KT.upd_new (o := .tup [.str "f", y1, y2]) hp
        exact Rp.mk upd_same (.cons (.str _ (by decide +kernel)) (.cons (q1.on kt) (.cons (q2.on kt) .nil)))
/-! ### replacing -/
def MapAt (K : PySem.W.Frag) (H : Hp) (m : Addr) (as : List Sh) : Prop := ∃ kvs : List (Key × V), H m = some (.dK kvs) ∧ ∀ i : Int, match pick as i with
  | some s => ∃ x, valV kvs (Sum.inl i) = some x ∧ Rp K H x s.d
  | none => valV kvs (Sum.inl i) = none
theorem MapAt.keep {H H' : Hp} {m : Addr} {as : List Sh} (h : MapAt K H m as) (s : Sm H H') : MapAt K H' m as := by
  obtain ⟨kvs, e, q⟩ := h
  refine ⟨kvs, s _ _ e, fun i => ?_⟩
  have := q i
  split at this
  · obtain ⟨x, e1, r⟩ := this
    exact ⟨x, e1, r.on (KT.same s)⟩
  · exact this
def spRepl (K : PySem.W.Frag) (n : Nat) : Sp := fun vs H Q _ => ∃ (x : V) (sh : Sh) (m : Addr) (as : List Sh), vs = [x, .ref m] ∧ Rp K H x sh.d ∧ sh.dep ≤ n ∧ sh.dep ≤ 1000 ∧ MapAt K H m as ∧ ∀ (r : V) (H' : Hp), Sm H H' → Rp K H' r (repl as sh).d → Q r H'
theorem dep_pos (s : Sh) : 0 < s.dep := by cases s <;> (simp only [Sh.dep]; omega)
theorem ok_repl (T : Txt K mg A) : ∀ n : Nat, FnOk P w K mg base CX0 (n + 2) A.f_replace_variables A.d_replace_variables ["shape", "mapping"] (spRepl K n)
  | 0 => by
    refine T.F_replace_variables.ok sc_replace_variables (fun vs H Q E h => ?_) (fun cdv Ar outer s H vs Q E hr h => ?_)
    · obtain ⟨x, sh, m, as, rfl, _⟩ := h
      rfl
    · obtain ⟨x, sh, m, as, rfl, _, h0, _⟩ := h
      have := dep_pos sh
      omega
  | n + 1 => by
    have G_direct_parts : FnOk P w K mg base CX0 1 A.f_direct_parts A.d_direct_parts _ _ := ok_parts T
    have G_with_parts : FnOk P w K mg base CX0 1 A.f_with_parts A.d_with_parts _ _ := ok_with T
    have G_replace_variables : FnOk P w K mg base CX0 (n + 2) A.f_replace_variables A.d_replace_variables _ _ := ok_repl T n
    refine T.F_replace_variables.ok sc_replace_variables (fun vs H Q E h => ?_) (fun cdv Ar outer s H vs Q E hr h => ?_)
    · obtain ⟨x, sh, m, as, rfl, _⟩ := h
      rfl
    · obtain ⟨x, sh, m, as, rfl, hx, hd, hd2, hm, k⟩ := h
      refine ⟨_, (pss_cons (ps_if (pt_cmpR op_eq (pe_ix (ixt (K := K) rfl) (pv 0) pe_int (fun _ _ => rfl)) pe_str (nomark _)) (pss_one (ps_ret (pe_dget2 (hu_of hr) (pv 1) (pe_ix (ixt (K := K) rfl) (pv 0) pe_int (fun _ _ => rfl)) (pv 0) ⟨rfl, rfl, rfl, rfl⟩))) pss_nil) (pss_cons (ps_set (i := 2) sc_replace_variables.nd rfl (Or.inl rfl) (pe_callTy call_tuple_of (by rfl) T.n_tuple (by decide +kernel) (pa_cons (pe_lc (own := [("part", 3)]) (g := gName 3) (tt := tYes) rfl sc_replace_variables.nd (pi_tup (pe_call G_direct_parts (hr.mono (by first | decide | omega)) rfl T.g_direct_parts T.F_direct_parts.kp T.b_direct_parts .nil pass0 (pa_cons (pv 0) pa_nil))) (blkOk_by (N := N_replace_variables) (sc := defScope s_replace_variables) (by decide +kernel)) (fun _ _ _ _ _ => (pg_name (i := 3) sc_replace_variables.nd rfl (Or.inl rfl))) (fun _ _ _ _ _ => pts_nil) (fun _ _ _ _ _ => (pe_call G_replace_variables (hr.mono (by first | decide | omega)) rfl T.g_replace_variables T.F_replace_variables.kp T.b_replace_variables .nil pass0 (pa_cons (pv 3) (pa_cons (pv 1) pa_nil))))) pa_nil))) (pss_one (ps_ret (pe_call G_with_parts (hr.mono (by first | decide | omega)) rfl T.g_with_parts T.F_with_parts.kp T.b_with_parts .nil pass0 (pa_cons (pv 0) (pa_cons (pv 2) pa_nil))))))), ?_⟩
      have hx0 := hx
      have tag : ∃ a t ws, x = .ref a ∧ SqT K H a (.str t :: ws) ∧ (sh.isV = false → decide (V.str t = V.str "v") = false) := by
        cases sh with
        | v i => obtain ⟨a, rfl, hs⟩ := inv_v hx; exact ⟨a, _, _, rfl, hs, fun z => nomatch z⟩
        | c i l => obtain ⟨a, _, _, rfl, hs, _⟩ := inv_c hx; exact ⟨a, _, _, rfl, hs, fun _ => by decide +kernel⟩
        | t l => obtain ⟨a, _, _, rfl, hs, _⟩ := inv_t hx; exact ⟨a, _, _, rfl, hs, fun _ => by decide +kernel⟩
        | f y z => obtain ⟨a, _, _, rfl, hs, _⟩ := inv_f hx; exact ⟨a, _, _, rfl, hs, fun _ => by decide +kernel⟩
      cases hv : sh.isV with
      | true =>
        cases sh with
        | v i =>
          obtain ⟨a, rfl, hs⟩ := inv_v hx
          refine ⟨_, rfl, a, _, _, _, rfl, rfl, hs, rfl, rfl, _, rfl, iteY (by decide +kernel) ?_⟩
          obtain ⟨kvs, em, q⟩ := hm
          refine ⟨_, rfl, m, rfl, .inl ⟨kvs, Rd.of em⟩, _, rfl, a, _, _, _, rfl, rfl, hs, rfl, _, rfl, _, DGet.k (k := Sum.inl i) em, ?_⟩
          have qi := q i
          cases e : pick as i with
          | some s0 =>
            rw [e] at qi
            obtain ⟨y, ey, hy⟩ := qi
            rw [ey]
            refine k y H (fun _ _ e => e) ?_
            simp only [repl, e, Option.getD_some]
            exact hy
          | none =>
            rw [e] at qi
            rw [qi]
            refine k _ H (fun _ _ e => e) ?_
            simp only [repl, e, Option.getD_none]
            exact hx0
        | c i l => cases hv
        | t l => cases hv
        | f y z => cases hv
      | false =>
        obtain ⟨a, t, ws, rfl, hs, nt⟩ := tag
        refine ⟨_, rfl, a, _, _, _, rfl, rfl, hs, at0, rfl, _, rfl, iteN (nt hv) ?_⟩
        refine ⟨_, rfl, _, sh, rfl, hx0, fun g ys H1 s1 hg hl => ⟨g, rfl, ⟨_, hg⟩, fun D hD => ?_⟩⟩
        have hlen : ys.length = sh.parts.length := by rw [hl.length, ds_len]
        have hD0 : H D = none := s1.free hD
        refine lc_tup (xs := ys) (fun i H' => Sm H1 H' ∧ ∃ acc : List V, H' D = some (.lst acc) ∧ acc.length = i ∧ RpAll K H' acc (Sh.ds ((repls as sh.parts).take i))) ?_ ?_ ?_ ?_
        · exact ⟨Sm.new hD, [], upd_same, rfl, by simp only [List.take_zero, Sh.ds]; exact .nil⟩
        · rintro i H' _ ⟨s2, _⟩
          exact (KT.same s2).sqt hg
        · rintro i y H' hy ⟨s2, acc, hacc, hla, hra⟩
          have hi : i < sh.parts.length := by
            have := (List.getElem?_eq_some_iff.mp hy).1
            omega
          have ep : sh.parts[i]? = some sh.parts[i] := List.getElem?_eq_getElem hi
          have ed : (Sh.ds sh.parts)[i]? = some (sh.parts[i]).d := by rw [ds_map, List.getElem?_map, ep]; rfl
          obtain ⟨y', ey, ry⟩ := hl.get ed
          rw [hy] at ey
          cases ey
          have hdep := parts_dep (List.getElem_mem hi)
          have s02 : Sm H H' := fun a o e => s2 _ _ (s1 _ _ e)
          refine ⟨rfl, tYes_do ?_⟩
          refine ⟨_, rfl, _, rfl, y, sh.parts[i], m, as, rfl, ry.on (KT.same s2), by omega, by omega, hm.keep s02, fun r H2 s3 hr3 => ?_⟩
          have hD2 : H2 D = some (.lst acc) := s3 _ _ hacc
          have kt2 : KT H2 (upd H2 D (.lst (acc ++ [r]))) := KT.upd_lst (NT.lst hD2)
          have hpl := parts_len sh
          refine ⟨acc, hD2, small_lt (by omega), ?_, acc ++ [r], upd_same, by simp [hla], ?_⟩
          · exact (show Sm H1 H2 from fun a o e => s3 _ _ (s2 _ _ e)).upd hD
          · have e1 : (repls as sh.parts).take (i + 1) = (repls as sh.parts).take i ++ [repl as sh.parts[i]] := by
              rw [repls_map, List.take_add_one, List.getElem?_map, ep]
              rfl
            rw [e1, ds_map, List.map_append, ← ds_map]
            refine RpAll.app ((hra.on (KT.same s3)).on kt2) (.cons (hr3.on kt2) .nil)
        · rintro H2 ⟨s2, acc, hacc, hla, hra⟩
          have hr2 : (repls as sh.parts).take ys.length = repls as sh.parts := by
            rw [List.take_of_length_le]
            rw [repls_map, List.length_map]
            omega
          rw [hr2] at hra
          refine ⟨D, _, rfl, .inl ⟨SqL.of hacc, fun p hp => ?_⟩⟩
          have s02 : Sm H H2 := fun a o e => s2 _ _ (s1 _ _ e)
          have s03 : Sm H (upd H2 p (.tup acc)) := s02.on hp
          refine ⟨_, rfl, _, rfl, _, sh, p, acc, repls as sh.parts, rfl, hx0.on (KT.same s03), .inl (Rd.of upd_same), hra.on (KT.upd_new hp), by rw [repls_map, List.length_map], fun r H3 s3 hr3 => ?_⟩
          refine k r H3 (fun a o e => s3 _ _ (s03 _ _ e)) ?_
          rw [repl_parts as hv]
          exact hr3
end
end K87

set_option Elab.async false
set_option maxRecDepth 100000
set_option linter.all false
set_option maxHeartbeats 4000000
/-! the report of entries, no program in sight -/
namespace AG
open PySem L2 GD
mutual
/-- the variables -/
def Sh.vp (p : Int → Bool) : Sh → Bool
  | .v n => p n
  | .c _ l => Sh.vps p l
  | .t l => Sh.vps p l
  | .f a b => a.vp p && b.vp p
def Sh.vps (p : Int → Bool) : List Sh → Bool
  | [] => true
  | a :: r => a.vp p && Sh.vps p r
end
mutual
/-- the stamps -/
def Sh.stin : Sh → Bool
  | .v _ => true
  | .c s l => decide (0 ≤ s) && decide (s < 200) && Sh.stins l
  | .t l => Sh.stins l
  | .f a b => a.stin && b.stin
def Sh.stins : List Sh → Bool
  | [] => true
  | a :: r => a.stin && Sh.stins r
end
mutual
def Sh.sz : Sh → Nat
  | .v _ => 1
  | .c _ l => 1 + Sh.szs l
  | .t l => 1 + Sh.szs l
  | .f a b => 1 + a.sz + b.sz
def Sh.szs : List Sh → Nat
  | [] => 0
  | a :: r => a.sz + Sh.szs r
end
theorem vps_mem {p : Int → Bool} : ∀ {l : List Sh} {a : Sh}, Sh.vps p l = true → a ∈ l → a.vp p = true
  | b :: r, a, h, m => by
    simp only [Sh.vps, Bool.and_eq_true] at h
    rcases List.mem_cons.mp m with q | q
    · rw [q]; exact h.1
    · exact vps_mem h.2 q
theorem stins_mem : ∀ {l : List Sh} {a : Sh}, Sh.stins l = true → a ∈ l → a.stin = true
  | b :: r, a, h, m => by
    simp only [Sh.stins, Bool.and_eq_true] at h
    rcases List.mem_cons.mp m with q | q
    · rw [q]; exact h.1
    · exact stins_mem h.2 q
theorem szs_mem : ∀ {l : List Sh} {a : Sh}, a ∈ l → a.sz ≤ Sh.szs l
  | b :: r, a, m => by
    simp only [Sh.szs]
    rcases List.mem_cons.mp m with q | q
    · rw [q]; omega
    · have := szs_mem q; omega
theorem szs_app : ∀ a b : List Sh, Sh.szs (a ++ b) = Sh.szs a + Sh.szs b
  | [], b => by simp [Sh.szs]
  | x :: a, b => by simp only [List.cons_append, Sh.szs, szs_app a b]; omega
theorem szs_rev : ∀ a : List Sh, Sh.szs a.reverse = Sh.szs a
  | [] => rfl
  | x :: a => by rw [List.reverse_cons, szs_app, szs_rev a]; simp only [Sh.szs]; omega
theorem vps_all {p : Int → Bool} : ∀ {l : List Sh}, Sh.vps p l = true ↔ ∀ a ∈ l, a.vp p = true
  | [] => by simp [Sh.vps]
  | a :: r => by simp [Sh.vps, vps_all (l := r)]
theorem sz_pos (s : Sh) : 0 < s.sz := by cases s <;> (simp only [Sh.sz]; omega)
theorem szs_len : ∀ l : List Sh, l.length ≤ Sh.szs l
  | [] => by simp [Sh.szs]
  | a :: r => by
    have := szs_len r
    have := sz_pos a
    simp only [List.length_cons, Sh.szs]
    omega
theorem szs_parts {s : Sh} (h : s.isV = false) : Sh.szs s.parts + 1 = s.sz := by
  cases s with
  | v n => cases h
  | c n l => simp only [Sh.parts, Sh.sz]; omega
  | t l => simp only [Sh.parts, Sh.sz]; omega
  | f a b => simp only [Sh.parts, Sh.sz, Sh.szs]; omega
theorem vps_parts {p : Int → Bool} {s : Sh} (h : s.vp p = true) : Sh.vps p s.parts = true := by
  cases s with
  | v n => rfl
  | c n l => exact h
  | t l => exact h
  | f a b => simp only [Sh.vp] at h; simpa only [Sh.parts, Sh.vps, Bool.and_true] using h
mutual
theorem repl_zero (as : List Sh) (h : as = [] ∨ as = [.v 0]) : ∀ s : Sh, s.vp (fun n => n == 0) = true → repl as s = s
  | .v n, q => by
    have : n = 0 := by simpa [Sh.vp] using q
    subst this
    rcases h with h | h <;> subst h <;> simp [repl, pick]
  | .c s l, q => by simp only [Sh.vp] at q; simp only [repl, repls_zero as h l q]
  | .t l, q => by simp only [Sh.vp] at q; simp only [repl, repls_zero as h l q]
  | .f a b, q => by
    simp only [Sh.vp, Bool.and_eq_true] at q
    simp only [repl, repl_zero as h a q.1, repl_zero as h b q.2]
theorem repls_zero (as : List Sh) (h : as = [] ∨ as = [.v 0]) : ∀ l : List Sh, Sh.vps (fun n => n == 0) l = true → repls as l = l
  | [], _ => by simp [repls]
  | a :: r, q => by
    simp only [Sh.vps, Bool.and_eq_true] at q
    simp only [repls, repl_zero as h a q.1, repls_zero as h r q.2]
end
def p01 (n : Int) : Bool := n == 0 || n == 1
def p0 (n : Int) : Bool := n == 0
def Sh.fine (s : Sh) : Bool := s.vp p01 && s.stin && decide (s.sz ≤ 50) && decide (s.dep ≤ 20) && decide (s.d.depth ≤ 40)
structure Fine (s : Sh) : Prop where
  vp : s.vp p01 = true
  st : s.stin = true
  sz : s.sz ≤ 50
  dep : s.dep ≤ 20
  depth : s.d.depth ≤ 40
theorem fine_of {s : Sh} (h : s.fine = true) : Fine s := by
  simp only [Sh.fine, Bool.and_eq_true, decide_eq_true_eq] at h
  exact ⟨h.1.1.1.1, h.1.1.1.2, h.1.1.2, h.1.2, h.2⟩
theorem nodup_zero {ns : List Int} (h : ns.Nodup) (z : ∀ n ∈ ns, p0 n = true) : ns = [] ∨ ns = [0] := by
  match ns, h, z with
  | [], _, _ => exact .inl rfl
  | [a], _, z => right; have := z a (by simp); simp [p0] at this; rw [this]
  | a :: b :: r, h, z =>
    have h1 := z a (by simp)
    have h2 := z b (by simp)
    simp [p0] at h1 h2
    subst h1 h2
    simp at h
end AG
namespace RG
open PySem L2 GD AG
/-! ### searching -/
theorem find_hit {α : Type} {p : α → Bool} {L : List α} {i : Nat} {e : α} (h : (L.take i).find? p = none) (e1 : L[i]? = some e) (hp : p e = true) : L.find? p = some e := by
  have hi := (List.getElem?_eq_some_iff.mp e1).1
  have : L = L.take i ++ (e :: L.drop (i + 1)) := by
    have h2 := (List.getElem?_eq_some_iff.mp e1).2
    rw [← h2, List.getElem_cons_drop, List.take_append_drop]
  rw [this, List.find?_append, h]
  simp [hp]
theorem take_snoc {α : Type} {L : List α} {i : Nat} {e : α} (e1 : L[i]? = some e) : L.take (i + 1) = L.take i ++ [e] := by
  rw [List.take_add_one, e1]
  rfl
theorem find_miss {α : Type} {p : α → Bool} {L : List α} {i : Nat} {e : α} (h : (L.take i).find? p = none) (e1 : L[i]? = some e) (hp : p e = false) : (L.take (i + 1)).find? p = none := by
  rw [take_snoc e1, List.find?_append, h]
  simp [hp]
theorem last_filter {α : Type} (p : α → Bool) (L : List α) : (L.filter p).getLast? = L.reverse.find? p := by
  rw [← List.head?_reverse, ← List.filter_reverse, List.head?_filter]
/-! ### texts -/
def enc (b : Bool) (x : Str) : Str := if b then "(" ++ x ++ ")" else x
def isF : Sh → Bool
  | .f _ _ => true
  | _ => false
def isFT : Sh → Bool
  | .f _ _ => true
  | .t _ => true
  | _ => false
def nameV (n : Int) : Str := if n = 0 then "'a" else "'b"
mutual
def textOf (N : List En) : Sh → Str
  | .v n => nameV n
  | .f a b => enc (isF a) (textOf N a) ++ " -> " ++ textOf N b
  | .t ps => Txt.join " * " (textsE N ps)
  | .c s [] => stampText N s
  | .c s [a] => enc (isFT a) (textOf N a) ++ " " ++ stampText N s
  | .c s (a :: b :: r) => "(" ++ Txt.join ", " (textOf N a :: textOf N b :: texts N r) ++ ") " ++ stampText N s
def texts (N : List En) : List Sh → List Str
  | [] => []
  | a :: r => textOf N a :: texts N r
def textsE (N : List En) : List Sh → List Str
  | [] => []
  | a :: r => enc (isFT a) (textOf N a) :: textsE N r
end
theorem texts_map (N : List En) : ∀ l : List Sh, texts N l = l.map (textOf N)
  | [] => by simp [texts]
  | a :: r => by simp [texts, texts_map N r]
theorem textsE_map (N : List En) : ∀ l : List Sh, textsE N l = l.map fun a => enc (isFT a) (textOf N a)
  | [] => by simp [textsE]
  | a :: r => by simp [textsE, textsE_map N r]
theorem slen (a b : Str) : (a ++ b).length = a.length + b.length := Str.length_append a b
theorem enc_len (b : Bool) (x : Str) : (enc b x).length ≤ x.length + 2 := by
  unfold enc
  split
  · rw [slen, slen, show (("(" : Str)).length = 1 by decide +kernel, show ((")" : Str)).length = 1 by decide +kernel]; omega
  · omega
theorem join_len (s : Str) : ∀ l : List Str, (Txt.join s l).length ≤ (l.map (·.length)).sum + l.length * s.length
  | [] => by
    unfold Txt.join
    rw [StrLaws.glued_eq_join]
    exact Nat.zero_le _
  | a :: r => by
    have h := PyProof.Rows.len_join_cons s a r
    unfold Txt.join
    rw [StrLaws.glued_eq_join, h, List.length_cons, Nat.succ_mul]
    omega
theorem stamp_str : ∀ s : Nat, s < 200 → ((toString ((s : Nat) : Int) : String) : Str).length ≤ 10 := by
  decide +kernel
end RG

set_option Elab.async false
set_option maxRecDepth 100000
set_option linter.all false
set_option maxHeartbeats 4000000
namespace RG
open PySem L2 GD AG
/-! ### entries that are in order -/
def conS : Option Sh → Sh → Sh
  | none, r => r
  | some a, r => .f a r
mutual
def En.wf : En → Bool
  | .val n _ s => decide (n.length ≤ 10) && s.fine
  | .con n _ arg res _ _ => decide (n.length ≤ 10) && (conS arg res).fine && (conS arg res).vp p0
  | .exn n arg => decide (n.length ≤ 10) && (match arg with
    | none => true
    | some a => a.fine)
  | .shp n k s => decide (n.length ≤ 10) && decide (k ≤ 2) && s.fine
  | .mod n es => decide (n.length ≤ 10) && decide (es.length ≤ 8) && En.wfs es
  | .oth g n _ => decide (n.length ≤ 10) && decide (g.length ≤ 10) && (decide (g ≠ "val") && decide (g ≠ "con") && decide (g ≠ "exn") && decide (g ≠ "shape") && decide (g ≠ "module") && decide (g ≠ "name"))
def En.wfs : List En → Bool
  | [] => true
  | a :: r => a.wf && En.wfs r
end
theorem wfs_mem : ∀ {l : List En} {a : En}, En.wfs l = true → a ∈ l → a.wf = true
  | b :: r, a, h, m => by
    simp only [En.wfs, Bool.and_eq_true] at h
    rcases List.mem_cons.mp m with q | q
    · rw [q]; exact h.1
    · exact wfs_mem h.2 q
theorem wfs_all : ∀ {l : List En}, En.wfs l = true ↔ ∀ a ∈ l, a.wf = true
  | [] => by simp [En.wfs]
  | a :: r => by simp [En.wfs, wfs_all (l := r)]
theorem wfs_app {a b : List En} (h : En.wfs a = true) (k : En.wfs b = true) : En.wfs (a ++ b) = true := wfs_all.mpr fun x m => by
  rcases List.mem_append.mp m with m | m
  · exact wfs_mem h m
  · exact wfs_mem k m
theorem name_len {e : En} (h : e.wf = true) : e.name.length ≤ 10 := by
  cases e <;> simp only [En.wf, Bool.and_eq_true, decide_eq_true_eq] at h <;> simp only [En.name] <;> simp_all
theorem oth_wf {g n : Str} {r : List PyData} (h : (En.oth g n r).wf = true) : g ≠ "val" ∧ g ≠ "con" ∧ g ≠ "exn" ∧ g ≠ "shape" ∧ g ≠ "module" ∧ g ≠ "name" := by
  simp only [En.wf, Bool.and_eq_true, decide_eq_true_eq] at h
  exact ⟨h.2.1.1.1.1.1, h.2.1.1.1.1.2, h.2.1.1.1.2, h.2.1.1.2, h.2.1.2, h.2.2⟩
theorem deps_app : ∀ a b : List En, En.deps (a ++ b) = Nat.max (En.deps a) (En.deps b)
  | [], b => by simp [En.deps]
  | x :: a, b => by simp only [List.cons_append, En.deps, deps_app a b]; exact (Nat.max_assoc _ _ _).symm
theorem mod_of {e : En} (h : e.wf = true) (t : e.tag = "module") : ∃ n l, e = .mod n l := by
  cases e with
  | mod n l => exact ⟨n, l, rfl⟩
  | oth g n r => exact absurd t (oth_wf h).2.2.2.2.1
  | val n k s => simp only [En.tag] at t; exact absurd t (by decide +kernel)
  | con n k s _ _ _ => simp only [En.tag] at t; exact absurd t (by decide +kernel)
  | exn n s => simp only [En.tag] at t; exact absurd t (by decide +kernel)
  | shp n k s => simp only [En.tag] at t; exact absurd t (by decide +kernel)
theorem shp_of {e : En} (h : e.wf = true) (t : e.tag = "shape") : ∃ n k s, e = .shp n k s := by
  cases e with
  | shp n k s => exact ⟨n, k, s, rfl⟩
  | oth g n r => exact absurd t (oth_wf h).2.2.2.1
  | val n k s => simp only [En.tag] at t; exact absurd t (by decide +kernel)
  | con n k s _ _ _ => simp only [En.tag] at t; exact absurd t (by decide +kernel)
  | exn n s => simp only [En.tag] at t; exact absurd t (by decide +kernel)
  | mod n l => simp only [En.tag] at t; exact absurd t (by decide +kernel)
theorem space_mod (e : En) : e.space = "module" ↔ e.tag = "module" := by
  unfold En.space
  by_cases c : e.tag = "exn"
  · rw [if_pos c, c]; exact ⟨fun z => absurd z (by decide +kernel), fun z => absurd z (by decide +kernel)⟩
  · rw [if_neg c]
theorem space_shp (e : En) : e.space = "shape" ↔ e.tag = "shape" := by
  unfold En.space
  by_cases c : e.tag = "exn"
  · rw [if_pos c, c]; exact ⟨fun z => absurd z (by decide +kernel), fun z => absurd z (by decide +kernel)⟩
  · rw [if_neg c]
/-! ### paths -/
structure PathOk (n : Nat) (p : List Str) : Prop where
  ne : p ≠ []
  len : p.length ≤ n
  each : ∀ x ∈ p, x.length ≤ 10
structure RowOk (n : Nat) (q : List Str × En) : Prop where
  path : PathOk n q.1
  wf : q.2.wf = true
  shp : ∃ m k s, q.2 = .shp m k s
theorem PathOk.snoc {n : Nat} {head : List Str} {x : Str} (hl : head.length ≤ n) (he : ∀ x ∈ head, x.length ≤ 10) (hx : x.length ≤ 10) : PathOk (n + 1) (head ++ [x]) :=
  ⟨by simp, by simp; omega, fun y m => by
    rcases List.mem_append.mp m with m | m
    · exact he y m
    · rw [List.mem_singleton.mp m]; exact hx⟩
theorem PathOk.more {n m : Nat} {p : List Str} (h : PathOk n p) (k : n ≤ m) : PathOk m p := ⟨h.ne, Nat.le_trans h.len k, h.each⟩
theorem pathss_mem {head : List Str} : ∀ {es : List En} {q : List Str × En}, q ∈ En.pathss head es → ∃ e ∈ es, q ∈ En.paths head e
  | [], q, h => by simp [En.pathss] at h
  | a :: r, q, h => by
    simp only [En.pathss] at h
    rcases List.mem_append.mp h with h | h
    · exact ⟨a, by simp, h⟩
    · obtain ⟨e, m, k⟩ := pathss_mem h
      exact ⟨e, by simp [m], k⟩
theorem paths_ok : ∀ (d : Nat) {es : List En} {head : List Str} {n : Nat}, En.deps es ≤ d → En.wfs es = true → head.length ≤ n → (∀ x ∈ head, x.length ≤ 10) → ∀ q ∈ paths es head, RowOk (n + d + 1) q := by
  intro d
  induction d with
  | zero =>
    intro es head n hd hw hl he q hq
    unfold paths at hq
    rcases List.mem_append.mp hq with hq | hq
    · obtain ⟨e, m, h⟩ := List.mem_filterMap.mp hq
      have w := wfs_mem hw m
      cases e with
      | shp x k s =>
        simp only [shpOf, Option.some.injEq] at h
        subst h
        exact ⟨(PathOk.snoc hl he (name_len w)).more (by omega), w, x, k, s, rfl⟩
      | _ => simp [shpOf] at h
    · obtain ⟨e, m, h⟩ := pathss_mem hq
      cases e with
      | mod x l =>
        have := endeps_mem m
        simp only [En.dep] at this
        omega
      | _ => simp [En.paths] at h
  | succ d ih =>
    intro es head n hd hw hl he q hq
    unfold paths at hq
    rcases List.mem_append.mp hq with hq | hq
    · obtain ⟨e, m, h⟩ := List.mem_filterMap.mp hq
      have w := wfs_mem hw m
      cases e with
      | shp x k s =>
        simp only [shpOf, Option.some.injEq] at h
        subst h
        exact ⟨(PathOk.snoc hl he (name_len w)).more (by omega), w, x, k, s, rfl⟩
      | _ => simp [shpOf] at h
    · obtain ⟨e, m, h⟩ := pathss_mem hq
      have w := wfs_mem hw m
      cases e with
      | mod x l =>
        have h1 := endeps_mem m
        simp only [En.dep] at h1
        rw [paths_mod] at h
        have nx := name_len w
        simp only [En.wf, Bool.and_eq_true, decide_eq_true_eq] at w
        have := ih (n := n + 1) (es := l) (head := head ++ [x]) (by omega) w.2 (by simp; omega) (fun y my => by
          rcases List.mem_append.mp my with my | my
          · exact he y my
          · rw [List.mem_singleton.mp my]; exact nx) q h
        exact ⟨this.path.more (by omega), this.wf, this.shp⟩
      | _ => simp [En.paths] at h
theorem fm_len {α β : Type} (f : α → Option β) (l : List α) : (l.filterMap f).length ≤ l.length := List.length_filterMap_le f l
theorem pathss_len {d : Nat} (ih : ∀ (es : List En) (head : List Str), En.deps es ≤ d → En.wfs es = true → (paths es head).length ≤ es.length * 9 ^ d) :
    ∀ (es : List En) (head : List Str), En.deps es ≤ d + 1 → En.wfs es = true → (En.pathss head es).length ≤ es.length * (8 * 9 ^ d)
  | [], head, _, _ => by simp [En.pathss]
  | a :: r, head, hd, hw => by
    simp only [En.wfs, Bool.and_eq_true] at hw
    have ha : a.dep ≤ d + 1 := Nat.le_trans (endeps_mem (l := a :: r) (by simp)) hd
    have hr : En.deps r ≤ d + 1 := Nat.le_trans (by simp only [En.deps]; exact Nat.le_max_right _ _) hd
    have h2 := pathss_len ih r head hr hw.2
    simp only [En.pathss, List.length_append, List.length_cons]
    have h1 : (En.paths head a).length ≤ 8 * 9 ^ d := by
      cases a with
      | mod x l =>
        rw [paths_mod]
        simp only [En.dep] at ha
        have hwa := hw.1
        simp only [En.wf, Bool.and_eq_true, decide_eq_true_eq] at hwa
        exact Nat.le_trans (ih l _ (by omega) hwa.2) (Nat.mul_le_mul_right _ hwa.1.2)
      | _ => simp [En.paths]
    rw [Nat.succ_mul]
    omega
theorem pathss0 : ∀ (es : List En) (head : List Str), En.deps es ≤ 0 → En.pathss head es = []
  | [], head, _ => by simp [En.pathss]
  | a :: r, head, hd => by
    have ha : a.dep ≤ 0 := Nat.le_trans (endeps_mem (l := a :: r) (by simp)) hd
    have hr : En.deps r ≤ 0 := Nat.le_trans (by simp only [En.deps]; exact Nat.le_max_right _ _) hd
    simp only [En.pathss, pathss0 r head hr, List.append_nil]
    cases a with
    | mod x l => simp only [En.dep] at ha; omega
    | _ => simp [En.paths]
theorem paths_len : ∀ (d : Nat) (es : List En) (head : List Str), En.deps es ≤ d → En.wfs es = true → (paths es head).length ≤ es.length * 9 ^ d
  | 0, es, head, hd, hw => by
    unfold paths
    rw [pathss0 es head hd, List.append_nil]
    simpa using fm_len (shpOf head) es
  | d + 1, es, head, hd, hw => by
    unfold paths
    have h1 := fm_len (shpOf head) es
    have h2 := pathss_len (paths_len d) es head hd hw
    rw [List.length_append, Nat.pow_succ]
    have h3 : 0 < 9 ^ d := Nat.pow_pos (by decide)
    have : es.length * (9 ^ d * 9) = es.length * (8 * 9 ^ d) + es.length * 9 ^ d := by rw [← Nat.mul_add]; congr 1; omega
    have h4 : es.length ≤ es.length * 9 ^ d := Nat.le_mul_of_pos_right _ h3
    omega
/-- names that are in order -/
structure NamesOk (N : List En) : Prop where
  wf : En.wfs N = true
  dep : En.deps N ≤ 3
  len : N.length ≤ 60
theorem NamesOk.rows {N : List En} (h : NamesOk N) : ∀ q ∈ paths N [], RowOk 4 q := fun q m => (paths_ok 3 h.dep h.wf (head := []) (n := 0) (by simp) (by simp) q m)
theorem NamesOk.few {N : List En} (h : NamesOk N) : (paths N []).length ≤ 50000 := by
  have := paths_len 3 N [] h.dep h.wf
  have := h.len
  have : N.length * 9 ^ 3 ≤ 60 * 9 ^ 3 := Nat.mul_le_mul_right _ this
  omega
theorem sum_le {n : Nat} : ∀ {l : List Str}, (∀ x ∈ l, x.length ≤ n) → (l.map (·.length)).sum ≤ l.length * n
  | [], _ => by simp
  | a :: r, h => by
    have h1 := h a (by simp)
    have h2 := sum_le (l := r) (n := n) fun x m => h x (by simp [m])
    simp only [List.map_cons, List.sum_cons, List.length_cons, Nat.succ_mul]
    omega
theorem stampPath_ok {N : List En} (h : NamesOk N) {s : Int} {p : List Str} (e : stampPath N s = some p) : PathOk 4 p := by
  unfold stampPath at e
  cases e1 : (paths N []).find? (isStamp N s) with
  | none => rw [e1] at e; cases e
  | some q =>
    rw [e1] at e
    simp at e
    subst e
    exact (h.rows q (List.mem_of_find?_eq_some e1)).path
theorem stampText_len {N : List En} (h : NamesOk N) {s : Int} (h0 : 0 ≤ s) (h1 : s < 200) : (stampText N s).length ≤ 60 := by
  unfold stampText
  cases e : stampPath N s with
  | none =>
    have := stamp_str s.toNat (by omega)
    rw [show ((s.toNat : Nat) : Int) = s by omega] at this
    dsimp only
    rw [slen, show (("?" : Str)).length = 1 by decide +kernel]
    omega
  | some p =>
    have hp := stampPath_ok h e
    dsimp only
    have h2 := join_len "." p
    have h3 := sum_le hp.each
    rw [show (("." : Str)).length = 1 by decide +kernel] at h2
    have := hp.len
    omega
theorem nameV_len (n : Int) : (nameV n).length ≤ 2 := by
  unfold nameV
  split
  · decide +kernel
  · decide +kernel
mutual
theorem text_len {N : List En} (h : NamesOk N) : ∀ s : Sh, s.stin = true → (textOf N s).length + 10 ≤ 100 * s.sz
  | .v n, _ => by
    have := nameV_len n
    simp only [textOf, Sh.sz]
    omega
  | .f a b, q => by
    simp only [Sh.stin, Bool.and_eq_true] at q
    have h1 := text_len h a q.1
    have h2 := text_len h b q.2
    have h3 := enc_len (isF a) (textOf N a)
    simp only [textOf, Sh.sz, slen, show ((" -> " : Str)).length = 4 by decide +kernel]
    omega
  | .t l, q => by
    simp only [Sh.stin] at q
    have h1 := textsE_len h l q
    have h2 := join_len " * " (textsE N l)
    rw [show ((" * " : Str)).length = 3 by decide +kernel] at h2
    simp only [textOf, Sh.sz]
    omega
  | .c s [], q => by
    simp only [Sh.stin, Bool.and_eq_true, decide_eq_true_eq] at q
    have := stampText_len h q.1.1 q.1.2
    simp only [textOf, Sh.sz, Sh.szs]
    omega
  | .c s [a], q => by
    simp only [Sh.stin, Sh.stins, Bool.and_eq_true, decide_eq_true_eq, Bool.and_true] at q
    have h0 := stampText_len h q.1.1 q.1.2
    have h1 := text_len h a q.2
    have h3 := enc_len (isFT a) (textOf N a)
    simp only [textOf, Sh.sz, Sh.szs, slen, show ((" " : Str)).length = 1 by decide +kernel]
    omega
  | .c s (a :: b :: r), q => by
    simp only [Sh.stin, Sh.stins, Bool.and_eq_true, decide_eq_true_eq] at q
    have h0 := stampText_len h q.1.1 q.1.2
    have h1 := text_len h a q.2.1
    have h2 := text_len h b q.2.2.1
    have h3 := texts_len h r q.2.2.2
    have h4 := join_len ", " (textOf N a :: textOf N b :: texts N r)
    simp only [textOf, Sh.sz, Sh.szs, slen, show ((", " : Str)).length = 2 by decide +kernel, show (("(" : Str)).length = 1 by decide +kernel, show ((") " : Str)).length = 2 by decide +kernel, List.map_cons, List.sum_cons, List.length_cons] at h4 ⊢
    omega
theorem texts_len {N : List En} (h : NamesOk N) : ∀ l : List Sh, Sh.stins l = true → ((texts N l).map (·.length)).sum + 10 * (texts N l).length ≤ 100 * Sh.szs l
  | [], _ => by simp [texts]
  | a :: r, q => by
    simp only [Sh.stins, Bool.and_eq_true] at q
    have h1 := text_len h a q.1
    have h2 := texts_len h r q.2
    simp only [texts, Sh.szs, List.map_cons, List.sum_cons, List.length_cons]
    omega
theorem textsE_len {N : List En} (h : NamesOk N) : ∀ l : List Sh, Sh.stins l = true → ((textsE N l).map (·.length)).sum + 8 * (textsE N l).length ≤ 100 * Sh.szs l
  | [], _ => by simp [textsE]
  | a :: r, q => by
    simp only [Sh.stins, Bool.and_eq_true] at q
    have h1 := text_len h a q.1
    have h2 := textsE_len h r q.2
    have h3 := enc_len (isFT a) (textOf N a)
    simp only [textsE, Sh.szs, List.map_cons, List.sum_cons, List.length_cons]
    omega
end
/-! ### the lines -/
def parT (k : Nat) : Str := if k = 0 then "" else if k = 1 then "'a " else "('a, 'b) "
def isNm (N : List En) (e : En) (p : List Str) : Bool := match stampOf e with
  | none => false
  | some s => match stampPath N s with
    | none => false
    | some q => PyData.eqv (pathD q) (pathD p)
def sameE (a b : En) : Bool := decide (a.space = b.space) && decide (a.name = b.name)
def hid (es : List En) (k : Nat) (e : En) : Bool := (es.drop (k + 1)).any fun x => sameE x e
def keptTo (es : List En) : Nat → List En
  | 0 => []
  | k + 1 => keptTo es k ++ (match es[k]? with
    | some e => if hid es k e then [] else [e]
    | none => [])
def kept (es : List En) : List En := keptTo es es.length
theorem keptTo_mem {es : List En} : ∀ {k : Nat} {e : En}, e ∈ keptTo es k → e ∈ es
  | 0, e, h => by simp [keptTo] at h
  | k + 1, e, h => by
    simp only [keptTo] at h
    rcases List.mem_append.mp h with h | h
    · exact keptTo_mem h
    · cases e1 : es[k]? with
      | none => rw [e1] at h; simp at h
      | some x =>
        rw [e1] at h
        simp only at h
        split at h
        · simp at h
        · rw [List.mem_singleton.mp h]; exact List.mem_of_getElem? e1
theorem keptTo_len (es : List En) : ∀ k : Nat, (keptTo es k).length ≤ k
  | 0 => by simp [keptTo]
  | k + 1 => by
    have := keptTo_len es k
    simp only [keptTo, List.length_append]
    cases es[k]? with
    | none => simp; omega
    | some x => simp only; split <;> simp <;> omega
theorem keptTo_succ {es : List En} {k : Nat} {e : En} (h : es[k]? = some e) : keptTo es (k + 1) = keptTo es k ++ (if hid es k e then [] else [e]) := by
  simp only [keptTo, h]
def entLines (N : List En) : Nat → List Str → En → List Str
  | _, _, .val m _ s => ["val " ++ m ++ " : " ++ textOf N s]
  | _, _, .con m _ arg res _ _ => ["con " ++ m ++ " : " ++ textOf N (conS arg res)]
  | _, _, .exn m none => ["exception " ++ m ++ ""]
  | _, _, .exn m (some a) => ["exception " ++ m ++ (" of " ++ textOf N a)]
  | _, head, .shp m k s => if isNm N (.shp m k s) (head ++ [m]) then ["shape " ++ (parT k ++ m)] else ["alias " ++ (parT k ++ m) ++ " = " ++ textOf N s]
  | 0, _, .mod _ _ => []
  | n + 1, head, .mod m es => [("module " ++ m ++ " = sig" : Str)] ++ (((kept es).map (entLines N n (head ++ [m]))).flatten.map fun l => ("  " : Str) ++ l) ++ [("end" : Str)]
  | _, _, .oth g m _ => [g ++ " " ++ m]
def lvTo (N : List En) (n : Nat) (head : List Str) (l : List En) : List Str := (l.map (entLines N n head)).flatten
def lvLines (N : List En) (n : Nat) (head : List Str) (es : List En) : List Str := lvTo N n head (kept es)
theorem lvTo_app (N : List En) (n : Nat) (head : List Str) (a b : List En) : lvTo N n head (a ++ b) = lvTo N n head a ++ lvTo N n head b := by
  unfold lvTo
  rw [List.map_append, List.flatten_append]
theorem lvTo_one (N : List En) (n : Nat) (head : List Str) (a : En) : lvTo N n head [a] = entLines N n head a := by
  unfold lvTo
  simp
theorem entLines_mod (N : List En) (n : Nat) (head : List Str) (m : Str) (es : List En) : entLines N (n + 1) head (.mod m es) = [("module " ++ m ++ " = sig" : Str)] ++ ((lvLines N n (head ++ [m]) es).map fun l => ("  " : Str) ++ l) ++ [("end" : Str)] := by
  rw [entLines]
  rfl
theorem parT_len (k : Nat) : (parT k).length ≤ 9 := by
  unfold parT
  split
  · decide +kernel
  · split <;> decide +kernel
theorem lit (s : String) (n : Nat) (h : ((s : Str)).length = n := by decide +kernel) : ((s : Str)).length = n := h
structure LinesOk (n : Nat) (l : List Str) : Prop where
  many : l.length ≤ 10 ^ n
  each : ∀ x ∈ l, x.length ≤ 6000 + 2 * n
theorem LinesOk.more {n : Nat} {l : List Str} (h : LinesOk n l) : LinesOk (n + 1) l := ⟨Nat.le_trans h.many (Nat.pow_le_pow_right (by decide) (Nat.le_succ n)), fun x m => by have := h.each x m; omega⟩
theorem flatten_len {α : Type} {f : α → List Str} {b : Nat} : ∀ {l : List α}, (∀ a ∈ l, (f a).length ≤ b) → ((l.map f).flatten).length ≤ l.length * b
  | [], _ => by simp
  | a :: r, h => by
    have h1 := h a (by simp)
    have h2 := flatten_len (l := r) (f := f) (b := b) fun x m => h x (by simp [m])
    simp only [List.map_cons, List.flatten_cons, List.length_append, List.length_cons, Nat.succ_mul]
    omega
theorem one_ok {n : Nat} {x : Str} (h : x.length ≤ 6000) : LinesOk n [x] := ⟨by simp; exact Nat.pow_pos (by decide), fun y m => by rw [List.mem_singleton.mp m]; omega⟩
theorem ent_ok {N : List En} (h : NamesOk N) : ∀ (n : Nat) (head : List Str) (e : En), e.wf = true → LinesOk n (entLines N n head e) := by
  intro n
  induction n with
  | zero =>
    intro head e w
    have nl := name_len w
    cases e with
    | val m k s =>
      simp only [En.wf, Bool.and_eq_true, decide_eq_true_eq] at w
      have f := fine_of w.2
      have := text_len h s f.st
      have := f.sz
      refine one_ok ?_
      simp only [En.name] at nl
      simp only [slen, lit "val " 4, lit " : " 3]
      omega
    | con m ar arg res i fam =>
      simp only [En.wf, Bool.and_eq_true, decide_eq_true_eq] at w
      have f := fine_of w.1.2
      have := text_len h (conS arg res) f.st
      have := f.sz
      simp only [En.name] at nl
      simp only [entLines]
      refine one_ok ?_
      simp only [slen, lit "con " 4, lit " : " 3]
      omega
    | exn m arg =>
      simp only [En.name] at nl
      cases arg with
      | none =>
        simp only [entLines]
        refine one_ok ?_
        simp only [slen, lit "exception " 10, lit "" 0]
        omega
      | some a =>
        simp only [En.wf, Bool.and_eq_true, decide_eq_true_eq] at w
        have f := fine_of w.2
        have := text_len h a f.st
        have := f.sz
        simp only [entLines]
        refine one_ok ?_
        simp only [slen, lit "exception " 10, lit " of " 4]
        omega
    | shp m k s =>
      simp only [En.name] at nl
      simp only [En.wf, Bool.and_eq_true, decide_eq_true_eq] at w
      have f := fine_of w.2
      have := text_len h s f.st
      have := f.sz
      have := parT_len k
      simp only [entLines]
      split
      · refine one_ok ?_
        simp only [slen, lit "shape " 6]
        omega
      · refine one_ok ?_
        simp only [slen, lit "alias " 6, lit " = " 3]
        omega
    | mod m es => simp only [entLines]; exact ⟨by simp, by simp⟩
    | oth g m r =>
      simp only [En.name] at nl
      simp only [En.wf, Bool.and_eq_true, decide_eq_true_eq] at w
      simp only [entLines]
      refine one_ok ?_
      simp only [slen, lit " " 1]
      omega
  | succ n ih =>
    intro head e w
    cases e with
    | mod m es =>
      have nl := name_len w
      simp only [En.name] at nl
      simp only [En.wf, Bool.and_eq_true, decide_eq_true_eq] at w
      rw [entLines_mod]
      have hk : (kept es).length ≤ 8 := Nat.le_trans (keptTo_len es _) w.1.2
      have he : ∀ a ∈ kept es, LinesOk n (entLines N n (head ++ [m]) a) := fun a ma => ih _ a (wfs_mem w.2 (keptTo_mem ma))
      have hl : (lvLines N n (head ++ [m]) es).length ≤ 8 * 10 ^ n := Nat.le_trans (flatten_len fun a ma => (he a ma).many) (Nat.mul_le_mul_right _ hk)
      refine ⟨?_, fun x mx => ?_⟩
      · have : 0 < 10 ^ n := Nat.pow_pos (by decide)
        simp only [List.length_append, List.length_map, List.length_cons, List.length_nil, Nat.pow_succ]
        omega
      · rcases List.mem_append.mp mx with mx | mx
        · rcases List.mem_append.mp mx with mx | mx
          · rw [List.mem_singleton.mp mx]
            simp only [slen, lit "module " 7, lit " = sig" 6]
            omega
          · obtain ⟨y, my, rfl⟩ := List.mem_map.mp mx
            obtain ⟨l, ml, hy⟩ := List.mem_flatten.mp my
            obtain ⟨a, ma, rfl⟩ := List.mem_map.mp ml
            have := (he a ma).each y hy
            simp only [slen, lit "  " 2]
            omega
        · rw [List.mem_singleton.mp mx, lit "end" 3]
          omega
    | val m k s => exact (by simpa only [entLines] using (ih head (.val m k s) w).more)
    | con m ar arg res i fam => exact (by simpa only [entLines] using (ih head (.con m ar arg res i fam) w).more)
    | exn m arg => cases arg with
      | none => exact (by simpa only [entLines] using (ih head (.exn m none) w).more)
      | some a => exact (by simpa only [entLines] using (ih head (.exn m (some a)) w).more)
    | shp m k s =>
      have := (ih head (.shp m k s) w).more
      simp only [entLines] at this ⊢
      exact this
    | oth g m r =>
      have := (ih head (.oth g m r) w).more
      simp only [entLines] at this ⊢
      exact this
theorem lv_ok {N : List En} (h : NamesOk N) (n : Nat) (head : List Str) {l : List En} (w : ∀ e ∈ l, e.wf = true) (hl : l.length ≤ 8) : (lvTo N n head l).length ≤ 8 * 10 ^ n ∧ ∀ x ∈ lvTo N n head l, x.length ≤ 6000 + 2 * n := by
  have he : ∀ a ∈ l, LinesOk n (entLines N n head a) := fun a ma => ent_ok h n _ a (w a ma)
  refine ⟨Nat.le_trans (flatten_len fun a ma => (he a ma).many) (Nat.mul_le_mul_right _ hl), fun x mx => ?_⟩
  obtain ⟨y, my, hx⟩ := List.mem_flatten.mp mx
  obtain ⟨a, ma, rfl⟩ := List.mem_map.mp my
  exact (he a ma).each x hx
/-! ### the law's own way -/
def stampCond (s : Sh) (k : Nat) : Option Int := match s with
  | .c n as => if PyData.eqv (.tuple (Sh.ds as)) (.tuple (Sh.ds (vars k))) = true then some n else none
  | _ => none
theorem stampOf_shp (m : Str) (k : Nat) (s : Sh) : stampOf (.shp m k s) = stampCond s k := by
  cases s <;> rfl
theorem stampOf_eqv (m : Str) (k : Nat) (s : Sh) (st : Int) : decide (stampOf (.shp m k s) = some st) = PyData.eqv s.d (Sh.c st (vars k)).d := by
  rw [stampOf_shp]
  cases s with
  | c n l =>
    have e : PyData.eqv (Sh.c n l).d (Sh.c st (vars k)).d = (decide (n = st) && PyData.eqv (.tuple (Sh.ds l)) (.tuple (Sh.ds (vars k)))) := by
      simp only [Sh.d, PyData.eqv, PyData.eqvAll]
      by_cases c : n = st <;> simp [c]
    rw [e]
    rw [Bool.eq_iff_iff, decide_eq_true_eq, Bool.and_eq_true, decide_eq_true_eq]
    unfold stampCond
    dsimp only
    by_cases c : PyData.eqv (.tuple (Sh.ds l)) (.tuple (Sh.ds (vars k))) = true
    · rw [if_pos c]; simp [c]
    · rw [if_neg c]; simp [c]
  | v n => simp only [stampCond, Sh.d, PyData.eqv, PyData.eqvAll]; rw [show (("v" : Str) == ("c" : Str)) = false by decide +kernel]; simp
  | t l => simp only [stampCond, Sh.d, PyData.eqv, PyData.eqvAll]; simp
  | f a b => simp only [stampCond, Sh.d, PyData.eqv, PyData.eqvAll]; rw [show (("f" : Str) == ("c" : Str)) = false by decide +kernel]; simp
/-- what is found of a path -/
theorem lookE_nil (es : List En) (sp : Str) : lookE es sp [] = none := by simp only [lookE]
theorem lookE_one (es : List En) (sp x : Str) : lookE es sp [x] = lastE es sp x := by simp only [lookE]
theorem lookE_step (es : List En) (sp x y : Str) (r : List Str) : lookE es sp (x :: y :: r) = (match lastE es "module" x with
    | some (.mod _ l) => lookE l sp (y :: r)
    | _ => none) := by
  rw [lookE] <;> rfl
theorem lastE_mem {es : List En} {sp x : Str} {e : En} (h : lastE es sp x = some e) : e ∈ es ∧ e.name = x ∧ e.space = sp := by
  unfold lastE at h
  have h1 := List.mem_of_find?_eq_some h
  have h2 := List.find?_some h
  simp only [Bool.and_eq_true, decide_eq_true_eq] at h2
  exact ⟨by simpa using h1, h2.1, h2.2⟩
/-- the law finds it so too: by the tag -/
theorem lastE_filter {es : List En} {sp x : Str} (hs : ∀ e : En, e.space = sp ↔ e.tag = sp) : (es.filter fun e => decide (e.tag = sp) && decide (e.name = x)).getLast? = lastE es sp x := by
  rw [last_filter]
  unfold lastE
  congr 1
  funext e
  rw [Bool.and_comm]
  congr 1
  exact decide_eq_decide.mpr (hs e).symm
end RG

set_option Elab.async false
set_option maxRecDepth 100000
set_option linter.all false
set_option maxHeartbeats 40000000
namespace K87
open PySem L2 GD AG RG
section
variable {P : Program} {w : World} {K : PySem.W.Frag} {mg : Str → Option Value} {base : Heap} {A : Adr}
theorem Sm.refl' {H : Hp} : Sm H H := fun _ _ e => e
theorem Sm.sm {H H1 H2 : Hp} (h : Sm H H1) (k : Sm H1 H2) : Sm H H2 := fun a o e => k a o (h a o e)
def spVars (K : PySem.W.Frag) : Sp := fun vs H Q _ => ∃ (x : V) (sh : Sh) (p : Int → Bool), vs = [x] ∧ Rp K H x sh.d ∧ sh.vp p = true ∧ sh.sz ≤ 1000 ∧
  ∀ (a : Addr) (ns : List Int) (H' : Hp), Sm H H' → SqT K H' a (ns.map V.int) → ns.Nodup → (∀ n ∈ ns, p n = true) → Q (.ref a) H'
theorem inV_int (n : Int) : ∀ ns : List Int, inV (.int n) (ns.map V.int) = decide (n ∈ ns)
  | [] => by simp [inV]
  | a :: r => by
    have ih := inV_int n r
    simp only [inV, List.map_cons, List.any_cons] at ih ⊢
    rw [ih]
    simp only [eqV]
    by_cases h : a = n
    · simp [h]
    · simp [h, Ne.symm h]
theorem snoc_inv {H : Hp} : ∀ {ds : List PyData} {d : PyData} {vs : List V}, RpAll K H vs (ds ++ [d]) → ∃ ws v, vs = ws ++ [v] ∧ RpAll K H ws ds ∧ Rp K H v d
  | [], d, vs, h => by
    obtain ⟨v, ws, rfl, h1, h2⟩ := h.cons_inv
    have := h2.nil_inv
    subst this
    exact ⟨[], v, rfl, .nil, h1⟩
  | e :: ds, d, vs, h => by
    obtain ⟨v, ws, rfl, h1, h2⟩ := h.cons_inv
    obtain ⟨ws', v', rfl, h3, h4⟩ := snoc_inv h2
    exact ⟨v :: ws', v', rfl, .cons h1 h3, h4⟩
theorem node_inv {H : Hp} {x : V} {sh : Sh} (hx : Rp K H x sh.d) : (∃ (i : Int) (a : Addr), sh = .v i ∧ x = .ref a ∧ SqT K H a [.str "v", .int i]) ∨ (sh.isV = false ∧ ∃ a t ws, x = .ref a ∧ SqT K H a (.str t :: ws) ∧ decide (V.str t = V.str "v") = false) := by
  cases sh with
  | v i => obtain ⟨a, rfl, hs⟩ := inv_v hx; exact .inl ⟨i, a, rfl, rfl, hs⟩
  | c i l => obtain ⟨a, _, _, rfl, hs, _⟩ := inv_c hx; exact .inr ⟨rfl, a, _, _, rfl, hs, by decide +kernel⟩
  | t l => obtain ⟨a, _, _, rfl, hs, _⟩ := inv_t hx; exact .inr ⟨rfl, a, _, _, rfl, hs, by decide +kernel⟩
  | f y z => obtain ⟨a, _, _, rfl, hs, _⟩ := inv_f hx; exact .inr ⟨rfl, a, _, _, rfl, hs, by decide +kernel⟩
theorem ok_vars (T : Txt K mg A) : FnOk P w K mg base CX0 2 A.f_variables A.d_variables ["shape"] (spVars K) := by
  have G_direct_parts : FnOk P w K mg base CX0 1 A.f_direct_parts A.d_direct_parts _ _ := ok_parts T
  refine T.F_variables.ok sc_variables (fun vs H Q E h => ?_) (fun cdv Ar outer s H vs Q E hr h => ?_)
  · obtain ⟨x, sh, p, rfl, _⟩ := h
    rfl
  · obtain ⟨x, sh, p, rfl, hx, hp, hz, k⟩ := h
    refine ⟨_, (pss_cons (ps_set (i := 1) sc_variables.nd rfl (Or.inl rfl) (pe_lst pa_nil)) (pss_cons (ps_set (i := 2) sc_variables.nd rfl (Or.inl rfl) (pe_lst (pa_cons (pv 0) pa_nil))) (pss_cons (ps_while PassesOwn.never (pt_truth (pv 2) (by intro _; rfl)) (pss_cons (ps_set (i := 3) sc_variables.nd rfl (Or.inl rfl) (pe_bm0 PySem.F.plainAttrs_list PySem.F.slot_list_pop PySem.F.type_list_pop mt_pop (pv 2))) (pss_one (ps_if (pt_cmpR op_eq (pe_ix (ixt (K := K) rfl) (pv 3) pe_int (fun _ _ => rfl)) pe_str (nomark _)) (pss_one (ps_if (pt_cmpR op_notIn_seq (pe_ix (ixt (K := K) rfl) (pv 3) pe_int (fun _ _ => rfl)) (pv 1) (by rfl)) (pss_one (ps_expr (pe_bm PySem.F.plainAttrs_list PySem.F.slot_list_append PySem.F.type_list_append mt_append (pv 1) (pa_cons (pe_ix (ixt (K := K) rfl) (pv 3) pe_int (fun _ _ => rfl)) pa_nil)))) pss_nil)) (pss_one (ps_for PassesOwn.never rfl (RT.pi_revA (by rfl) T.n_reversed (pe_call G_direct_parts (hr.mono (by first | decide | omega)) rfl T.g_direct_parts T.F_direct_parts.kp T.b_direct_parts .nil pass0 (pa_cons (pv 3) pa_nil))) (pg_name (i := 4) sc_variables.nd rfl (Or.inl rfl)) (pss_one (ps_expr (pe_bm PySem.F.plainAttrs_list PySem.F.slot_list_append PySem.F.type_list_append mt_append (pv 2) (pa_cons (pv 4) pa_nil)))))))))) (pss_one (ps_ret (pe_callTy call_tuple_of (by rfl) T.n_tuple (by decide +kernel) (pa_cons (pv 1) pa_nil))))))), ?_⟩
    refine ⟨Nat.zero_le _, fun f hf => ?_⟩
    refine ⟨_, rfl, (show 1 ≤ sizeLine by decide), fun wt hwt => ?_⟩
    have hwf : wt ≠ f := fun z => by rw [z, upd_same] at hwt; cases hwt
    have hwt0 : H wt = none := by rw [upd_ne hwf] at hwt; exact hwt
    refine ⟨fun m σ' H' => ∃ (o3 o4 : Option V) (ns : List Int) (ys : List V) (l : List Sh), σ' = [some x, some (.ref f), some (.ref wt), o3, o4] ∧ m = Sh.szs l ∧ m ≤ 1000 ∧ Sm H H' ∧ H' f = some (.lst (ns.map V.int)) ∧ ns.length + m ≤ 1000 ∧ H' wt = some (.lst ys) ∧ RpAll K H' ys (Sh.ds l) ∧ Sh.vps p l = true ∧ ns.Nodup ∧ (∀ n ∈ ns, p n = true), ⟨_, none, none, [], [x], [sh], rfl, rfl, ?_, ?_, ?_, ?_, ?_, ?_, ?_, ?_, ?_⟩, ?_⟩
    · simp only [Sh.szs]; omega
    · exact (Sm.new hf).on hwt
    · rw [upd_ne hwf.symm]; exact upd_same
    · simp only [Sh.szs, List.length_nil]; omega
    · exact upd_same
    · have kt : KT H (upd (upd H f (.lst [])) wt (.lst [x])) := KT.same ((Sm.new hf).on hwt)
      exact .cons (hx.on kt) .nil
    · simp [Sh.vps, hp]
    · exact .nil
    · simp
    rintro m σ' H' ⟨o3, o4, ns, ys, l, rfl, rfl, hm, S, ef, hns, ewt, hl, hv, nd, pn⟩
    refine ⟨_, rfl, !ys.isEmpty, .inl ⟨ys, SqL.of ewt, rfl⟩, ?_⟩
    rcases List.eq_nil_or_concat l with rfl | ⟨l', nd0, rfl⟩
    · have : ys = [] := hl.nil_inv
      subst this
      refine iteF (A := _) ?_
      refine ⟨_, rfl, f, _, rfl, .inl ⟨SqL.of ef, fun t ht => ?_⟩⟩
      exact k t ns _ (S.on ht) (.inl (Rd.of upd_same)) nd pn
    · rw [List.concat_eq_append] at hl hv hm hns ⊢
      have hl2 : RpAll K H' ys (Sh.ds l' ++ [nd0.d]) := by rw [ds_map, List.map_append, ← ds_map] at hl; exact hl
      obtain ⟨ys', y, rfl, hl3, hy⟩ := snoc_inv hl2
      have hsz : Sh.szs (l' ++ [nd0]) = Sh.szs l' + nd0.sz := by rw [szs_app]; simp only [Sh.szs]; omega
      have hv' : Sh.vps p l' = true ∧ nd0.vp p = true := by
        rw [vps_all] at hv
        exact ⟨vps_all.mpr fun a m => hv a (by simp [m]), hv _ (by simp)⟩
      have np := sz_pos nd0
      rw [show (!(ys' ++ [y]).isEmpty) = true by simp]
      refine iteT (B := _) ?_
      refine ⟨fun σ'' H'' => ∃ m', m' < _ ∧ _, fun _ _ q => q, ?_⟩
      refine ⟨_, rfl, .inl ⟨rfl, _, SqL.of ewt⟩, wt, _, y, rfl, rfl, ewt, by simp, ?_⟩
      rw [List.dropLast_concat]
      have kt1 : KT H' (upd H' wt (.lst ys')) := KT.upd_lst (NT.lst ewt)
      have S1 : Sm H (upd H' wt (.lst ys')) := S.upd hwt0
      have ef1 : (upd H' wt (.lst ys')) f = some (.lst (ns.map V.int)) := by rw [upd_ne hwf.symm]; exact ef
      have ew1 : (upd H' wt (.lst ys')) wt = some (.lst ys') := upd_same
      have hl4 := hl3.on kt1
      have hy4 := hy.on kt1
      generalize (upd H' wt (.lst ys')) = H1 at S1 ef1 ew1 hl4 hy4 ⊢
      rcases node_inv hy4 with ⟨i, a, rfl, rfl, hs⟩ | ⟨hv0, a, t, ws, rfl, hs, nt⟩
      · refine ⟨_, rfl, a, _, _, _, rfl, rfl, hs, at0, rfl, _, rfl, iteY (by decide +kernel) ?_⟩
        refine ⟨_, rfl, a, _, _, _, rfl, rfl, hs, at1, _, rfl, f, _, rfl, .inl (SqL.of ef1), rfl, by simp [flatV], _, rfl, ?_⟩
        rw [inV_int]
        simp only [Sh.sz] at hsz
        by_cases c : i ∈ ns
        · rw [decide_eq_true c]
          refine iteF (A := _) ?_
          exact ⟨Sh.szs l', by omega, _, _, ns, ys', l', rfl, rfl, by omega, S1, ef1, by omega, ew1, hl4, hv'.1, nd, pn⟩
        · rw [decide_eq_false c]
          refine iteT (B := _) ?_
          refine ⟨_, rfl, .inl ⟨rfl, _, SqL.of ef1⟩, _, rfl, a, _, _, _, rfl, rfl, hs, at1, f, _, _, rfl, rfl, ef1, small_lt (by rw [List.length_map]; omega), ?_⟩
          have kt2 : KT H1 (upd H1 f (.lst (ns.map V.int ++ [V.int i]))) := KT.upd_lst (NT.lst ef1)
          exact ⟨Sh.szs l', by omega, _, _, ns ++ [i], ys', l', rfl, rfl, by omega, S1.upd hf, by rw [upd_same, List.map_append]; rfl, by simp; omega, by rw [upd_ne hwf]; exact ew1, hl4.on kt2, hv'.1, by
            rw [List.nodup_append]
            exact ⟨nd, by simp, fun a ma b mb => by
              rw [List.mem_singleton.mp mb]
              exact fun z => c (by rw [← z]; exact ma)⟩, fun n m => by
            rcases List.mem_append.mp m with m | m
            · exact pn n m
            · rw [List.mem_singleton.mp m]; exact hv'.2⟩
      · refine ⟨_, rfl, a, _, _, _, rfl, rfl, hs, at0, rfl, _, rfl, iteN nt ?_⟩
        refine ⟨_, rfl, _, nd0, rfl, hy4, fun g gs H2 s2 hg hgl => ⟨g, gs, rfl, .inr ⟨hg, ?_⟩⟩⟩
        have hglen : gs.length = nd0.parts.length := by rw [hgl.length, ds_len]
        have hpsz := szs_parts hv0
        have hpl := szs_len nd0.parts
        have hll := szs_len l'
        refine RT.for_ItvT (fun i σ'' H'' => ∃ (o4 : Option V) (zs : List V), σ'' = [some x, some (.ref f), some (.ref wt), some (.ref a), o4] ∧ Sm H H'' ∧ H'' f = some (.lst (ns.map V.int)) ∧ H'' wt = some (.lst zs) ∧ zs.length ≤ Sh.szs l' + i ∧ RpAll K H'' zs (Sh.ds (l' ++ nd0.parts.reverse.take i)) ∧ SqT K H'' g gs ∧ RpAll K H'' gs (Sh.ds nd0.parts)) ?_ ?_ ?_ ?_
        · refine ⟨_, ys', rfl, S1.sm s2, s2 _ _ ef1, s2 _ _ ew1, ?_, ?_, hg, hgl⟩
          · rw [hl4.length, ds_len]; omega
          · rw [List.take_zero, List.append_nil]; exact hl4.on (KT.same s2)
        · rintro i σ'' H'' ⟨_, _, _, _, _, _, _, _, h, _⟩
          exact h
        · rintro i v σ'' H'' hi hv2 ⟨o4', zs, rfl, S3, ef3, ew3, hzl, hzs, hg3, hgl3⟩
          refine ⟨_, rfl, .inl ⟨rfl, _, SqL.of ew3⟩, _, rfl, wt, zs, _, rfl, rfl, ew3, small_lt (by omega), ?_⟩
          have kt3 : KT H'' (upd H'' wt (.lst (zs ++ [v]))) := KT.upd_lst (NT.lst ew3)
          have ei : nd0.parts.reverse[i]? = some (nd0.parts[nd0.parts.length - 1 - i]'(by omega)) := by
            rw [List.getElem?_reverse (by omega)]
            exact List.getElem?_eq_getElem _
          obtain ⟨d, ed, rd⟩ := hgl3.getV hv2
          have ed2 : d = (nd0.parts[nd0.parts.length - 1 - i]'(by omega)).d := by
            rw [ds_map, List.getElem?_map, hglen, List.getElem?_eq_getElem (by omega)] at ed
            simpa using ed.symm
          subst ed2
          refine ⟨_, zs ++ [v], rfl, S3.upd hwt0, by rw [upd_ne hwf.symm]; exact ef3, upd_same, by simp; omega, ?_, kt3.sqt hg3, hgl3.on kt3⟩
          rw [take_snoc ei, ← List.append_assoc, ds_map, List.map_append, ← ds_map]
          exact RpAll.app (hzs.on kt3) (.cons (rd.on kt3) .nil)
        · rintro σ'' H'' ⟨o4', zs, rfl, S3, ef3, ew3, hzl, hzs, hg3, hgl3⟩
          have e1 : nd0.parts.reverse.take gs.length = nd0.parts.reverse := List.take_of_length_le (by rw [List.length_reverse]; omega)
          rw [e1] at hzs
          refine ⟨Sh.szs (l' ++ nd0.parts.reverse), ?_, _, _, ns, zs, l' ++ nd0.parts.reverse, rfl, rfl, ?_, S3, ef3, ?_, ew3, hzs, ?_, nd, pn⟩
          · rw [szs_app, szs_rev]; omega
          · rw [szs_app, szs_rev]; omega
          · rw [szs_app, szs_rev]; omega
          · rw [vps_all]
            intro b mb
            rcases List.mem_append.mp mb with mb | mb
            · exact vps_all.mp hv'.1 b mb
            · exact vps_all.mp (vps_parts hv'.2) b (by simpa using mb)
end
end K87

set_option Elab.async false
set_option maxRecDepth 100000
set_option linter.all false
set_option maxHeartbeats 40000000
namespace K87
open PySem L2 GD AG RG
section
variable {P : Program} {w : World} {K : PySem.W.Frag} {mg : Str → Option Value} {base : Heap} {A : Adr}
def spWithin (K : PySem.W.Frag) : Sp := fun vs H Q _ => ∃ (x : V) (sh : Sh), vs = [x] ∧ Rp K H x sh.d ∧ sh.sz ≤ 1000 ∧ sh.dep ≤ 50 ∧ ∀ H', Sm H H' → Q (.bl true) H'
def pr (q : Sh × Int) : PyData := .tuple [q.1.d, .int q.2]
theorem ok_within (T : Txt K mg A) : FnOk P w K mg base CX0 2 A.f_within_bounds A.d_within_bounds ["shape"] (spWithin K) := by
  have G_direct_parts : FnOk P w K mg base CX0 1 A.f_direct_parts A.d_direct_parts _ _ := ok_parts T
  refine T.F_within_bounds.ok sc_within_bounds (fun vs H Q E h => ?_) (fun cdv Ar outer s H vs Q E hr h => ?_)
  · obtain ⟨x, sh, rfl, _⟩ := h
    rfl
  · obtain ⟨x, sh, rfl, hx, hz, hdp, k⟩ := h
    refine ⟨_, (pss_cons (ps_set (i := 1) sc_within_bounds.nd rfl (Or.inl rfl) (pe_lst (pa_cons (pe_tup (pa_cons (pv 0) (pa_cons pe_int pa_nil))) pa_nil))) (pss_cons (ps_set (i := 2) sc_within_bounds.nd rfl (Or.inl rfl) pe_int) (pss_cons (ps_while PassesOwn.never (pt_truth (pv 1) (by intro _; rfl)) (pss_cons (ps_asg (pe_bm0 PySem.F.plainAttrs_list PySem.F.slot_list_pop PySem.F.type_list_pop mt_pop (pv 1)) (pg_tup rfl (pgs_cons (pg_name (i := 3) sc_within_bounds.nd rfl (Or.inl rfl)) (pgs_cons (pg_name (i := 4) sc_within_bounds.nd rfl (Or.inl rfl)) pgs_nil)))) (pss_cons (ps_aug (i := 2) sc_within_bounds.nd rfl (Or.inl rfl) pe_int ip_add) (pss_cons (ps_if (PW.pt (pw_or (pt_cmpR op_gt (pv 2) (pe_glob (v := .int 2000) rfl T.g_MAX_SIZE ⟨_, rfl⟩) (nomark _)) (pw_or1 (pt_cmpR op_gt (pv 4) (pe_glob (v := .int 100) rfl T.g_MAX_DEPTH ⟨_, rfl⟩) (nomark _))))) (pss_one (ps_ret pe_bl)) pss_nil) (pss_one (ps_for PassesOwn.never rfl (pi_tup (pe_call G_direct_parts (hr.mono (by first | decide | omega)) rfl T.g_direct_parts T.F_direct_parts.kp T.b_direct_parts .nil pass0 (pa_cons (pv 3) pa_nil))) (pg_name (i := 5) sc_within_bounds.nd rfl (Or.inl rfl)) (pss_one (ps_expr (pe_bm PySem.F.plainAttrs_list PySem.F.slot_list_append PySem.F.type_list_append mt_append (pv 1) (pa_cons (pe_tup (pa_cons (pv 5) (pa_cons (pe_op op_add (pv 4) pe_int) pa_nil))) pa_nil)))))))))) (pss_one (ps_ret pe_bl))))), ?_⟩
    refine ⟨_, rfl, (show 2 ≤ sizeLine by decide), fun t0 ht0 => ?_⟩
    have r0 : Rp K (upd H t0 (.tup [x, .int 1])) (.ref t0) (pr (sh, 1)) := Rp.mk upd_same (.cons (hx.on (KT.upd_new ht0)) (.cons (.int _) .nil))
    have S0 : Sm H (upd H t0 (.tup [x, .int 1])) := Sm.new ht0
    generalize (upd H t0 (.tup [x, .int 1])) = H0 at r0 S0 ⊢
    refine ⟨(show 1 ≤ sizeLine by decide), fun wt hwt => ?_⟩
    have hwt0 : H wt = none := S0.free hwt
    refine ⟨fun m σ' H' => ∃ (n : Int) (o3 o4 o5 : Option V) (ys : List V) (l : List (Sh × Int)), σ' = [some x, some (.ref wt), some (.int n), o3, o4, o5] ∧ m = Sh.szs (l.map Prod.fst) ∧ 0 ≤ n ∧ n + m ≤ 1000 ∧ Sm H H' ∧ H' wt = some (.lst ys) ∧ RpAll K H' ys (l.map pr) ∧ (∀ q ∈ l, 0 ≤ q.2 ∧ q.2 + q.1.dep ≤ 60), ⟨_, 0, none, none, none, [.ref t0], [(sh, 1)], rfl, rfl, ?_, ?_, ?_, ?_, ?_, ?_⟩, ?_⟩
    · decide
    · simp only [List.map_cons, List.map_nil, Sh.szs]; omega
    · exact S0.on hwt
    · exact upd_same
    · exact .cons (r0.on (KT.upd_new hwt)) .nil
    · intro q m
      rw [List.mem_singleton.mp m]
      exact ⟨show (0 : Int) ≤ 1 by decide, by show (1 : Int) + (sh.dep : Int) ≤ 60; omega⟩
    rintro m σ' H' ⟨n, o3, o4, o5, ys, l, rfl, rfl, hn0, hn, S, ewt, hl, hlv⟩
    refine ⟨_, rfl, !ys.isEmpty, .inl ⟨ys, SqL.of ewt, rfl⟩, ?_⟩
    rcases List.eq_nil_or_concat l with rfl | ⟨l', ⟨nd0, lv⟩, rfl⟩
    · have : ys = [] := hl.nil_inv
      subst this
      refine iteF (A := _) ?_
      exact k _ S
    · rw [List.concat_eq_append] at hl hlv hn ⊢
      rw [List.map_append] at hl hn
      obtain ⟨ys', y, rfl, hl3, hy⟩ := snoc_inv hl
      have hsz : Sh.szs ((l' ++ [(nd0, lv)]).map Prod.fst) = Sh.szs (l'.map Prod.fst) + nd0.sz := by rw [List.map_append, szs_app]; simp only [List.map_cons, List.map_nil, Sh.szs]; omega
      rw [← List.map_append, hsz] at hn
      have np := sz_pos nd0
      have hq := hlv (nd0, lv) (by simp)
      dsimp only at hq
      rw [show (!(ys' ++ [y]).isEmpty) = true by simp]
      refine iteT (B := _) ?_
      refine ⟨fun σ'' H'' => ∃ m', m' < _ ∧ _, fun _ _ q => q, ?_⟩
      refine ⟨_, rfl, .inl ⟨rfl, _, SqL.of ewt⟩, wt, _, y, rfl, rfl, ewt, by simp, ?_⟩
      rw [List.dropLast_concat]
      have kt1 : KT H' (upd H' wt (.lst ys')) := KT.upd_lst (NT.lst ewt)
      have S1 : Sm H (upd H' wt (.lst ys')) := S.upd hwt0
      have ew1 : (upd H' wt (.lst ys')) wt = some (.lst ys') := upd_same
      have hl4 := hl3.on kt1
      have hy4 := hy.on kt1
      generalize (upd H' wt (.lst ys')) = H1 at S1 ew1 hl4 hy4 ⊢
      obtain ⟨a, zs, rfl, sa, ra⟩ := hy4.tup_inv
      obtain ⟨v1, w1, rfl, h1, ra⟩ := ra.cons_inv
      obtain ⟨v2, w2, rfl, h2, ra⟩ := ra.cons_inv
      have e2 := h2.int_inv
      have e3 := ra.nil_inv
      subst e2 e3
      refine ⟨a, _, rfl, sa, rfl, _, _, rfl, _, _, rfl, rfl, ?_⟩
      refine ⟨_, rfl, _, _, rfl, rfl, ?_⟩
      refine ⟨_, rfl, _, _, rfl, rfl, _, rfl, ?_⟩
      refine iteN (decide_eq_false (by dsimp only; omega)) ?_
      refine ⟨_, rfl, _, _, rfl, rfl, _, rfl, ?_⟩
      have hdn : (0 : Int) ≤ nd0.dep := by omega
      refine iteN (decide_eq_false (by omega)) ?_
      refine ⟨_, rfl, _, nd0, rfl, h1, fun g gs H2 s2 hg hgl => ⟨g, rfl, ⟨_, hg⟩, ?_⟩⟩
      have hglen : gs.length = nd0.parts.length := by rw [hgl.length, ds_len]
      have hpl := szs_len nd0.parts
      have hll := szs_len (l'.map Prod.fst)
      rw [List.length_map] at hll
      have hpsz : Sh.szs nd0.parts + 1 ≤ nd0.sz := by
        cases hv0 : nd0.isV with
        | true =>
          cases nd0 with
          | v i => simp [Sh.parts, Sh.szs, Sh.sz]
          | _ => cases hv0
        | false => exact Nat.le_of_eq (szs_parts hv0)
      refine for_tup (xs := gs) (fun i σ'' H'' => ∃ (o5 : Option V) (zs : List V), σ'' = [some x, some (.ref wt), some (.int (n + 1)), some v1, some (.int lv), o5] ∧ Sm H H'' ∧ H'' wt = some (.lst zs) ∧ zs.length ≤ l'.length + i ∧ RpAll K H'' zs ((l' ++ (nd0.parts.take i).map fun q => (q, lv + 1)).map pr) ∧ SqT K H'' g gs ∧ RpAll K H'' gs (Sh.ds nd0.parts)) ?_ ?_ ?_ ?_
      · refine ⟨_, ys', rfl, S1.sm s2, s2 _ _ ew1, ?_, ?_, hg, hgl⟩
        · rw [hl4.length, List.length_map]; omega
        · rw [List.take_zero, List.map_nil, List.append_nil]; exact hl4.on (KT.same s2)
      · rintro i σ'' H'' _ ⟨_, _, _, _, _, _, _, h, _⟩
        exact h
      · rintro i v σ'' H'' hv2 ⟨o5', zs, rfl, S3, ew3, hzl, hzs, hg3, hgl3⟩
        have hi : i < gs.length := (List.getElem?_eq_some_iff.mp hv2).1
        have ei : nd0.parts[i]? = some (nd0.parts[i]'(by omega)) := List.getElem?_eq_getElem _
        obtain ⟨d, ed, rd⟩ := hgl3.getV hv2
        have ed2 : d = (nd0.parts[i]'(by omega)).d := by
          rw [ds_map, List.getElem?_map, ei] at ed
          simpa using ed.symm
        subst ed2
        refine ⟨_, rfl, .inl ⟨rfl, _, SqL.of ew3⟩, _, rfl, _, rfl, _, _, rfl, rfl, (show 2 ≤ sizeLine by decide), fun t ht => ?_⟩
        have kt2 : KT H'' (upd H'' t (.tup [v, .int (lv + 1)])) := KT.upd_new ht
        have rt : Rp K (upd H'' t (.tup [v, .int (lv + 1)])) (.ref t) (pr (nd0.parts[i]'(by omega), lv + 1)) := Rp.mk upd_same (.cons (rd.on kt2) (.cons (.int _) .nil))
        have ew4 : (upd H'' t (.tup [v, .int (lv + 1)])) wt = some (.lst zs) := by rw [upd_ne (ne_of_none ew3 ht)]; exact ew3
        have S4 : Sm H (upd H'' t (.tup [v, .int (lv + 1)])) := S3.on ht
        have hzs4 := hzs.on kt2
        have hg4 := kt2.sqt hg3
        have hgl4 := hgl3.on kt2
        generalize (upd H'' t (.tup [v, .int (lv + 1)])) = H4 at rt ew4 S4 hzs4 hg4 hgl4 ⊢
        refine ⟨wt, zs, _, rfl, rfl, ew4, small_lt (by omega), ?_⟩
        have kt3 : KT H4 (upd H4 wt (.lst (zs ++ [.ref t]))) := KT.upd_lst (NT.lst ew4)
        refine ⟨_, zs ++ [.ref t], rfl, S4.upd hwt0, upd_same, by simp; omega, ?_, kt3.sqt hg4, hgl4.on kt3⟩
        have e6 : (l' ++ (nd0.parts.take (i + 1)).map fun q => (q, lv + 1)).map pr = (l' ++ (nd0.parts.take i).map fun q => (q, lv + 1)).map pr ++ [pr (nd0.parts[i]'(by omega), lv + 1)] := by
          rw [take_snoc ei]
          simp only [List.map_append, List.append_assoc, List.map_cons, List.map_nil]
        rw [e6]
        exact RpAll.app (hzs4.on kt3) (.cons (rt.on kt3) .nil)
      · rintro σ'' H'' ⟨o5', zs, rfl, S3, ew3, hzl, hzs, hg3, hgl3⟩
        rw [List.take_of_length_le (by omega)] at hzs
        have e5 : Sh.szs ((l' ++ nd0.parts.map fun q => (q, lv + 1)).map Prod.fst) = Sh.szs (l'.map Prod.fst) + Sh.szs nd0.parts := by
          rw [List.map_append, szs_app, List.map_map]
          congr 1
          rw [show (Prod.fst ∘ fun q : Sh => (q, lv + 1)) = id from rfl, List.map_id]
        refine ⟨_, ?_, n + 1, _, _, _, zs, l' ++ nd0.parts.map fun q => (q, lv + 1), rfl, rfl, by omega, ?_, S3, ew3, hzs, ?_⟩
        · rw [e5, hsz]; omega
        · rw [e5]; omega
        · intro q mq
          rcases List.mem_append.mp mq with mq | mq
          · exact hlv q (by simp [mq])
          · obtain ⟨q0, mq0, rfl⟩ := List.mem_map.mp mq
            have := parts_dep mq0
            dsimp only
            omega
def spSubst (K : PySem.W.Frag) : Sp := fun vs H Q _ => ∃ (x : V) (sh : Sh) (m : Addr) (as : List Sh), vs = [x, .ref m] ∧ Rp K H x sh.d ∧ sh.vp p0 = true ∧ (as = [] ∨ as = [.v 0]) ∧ sh.sz ≤ 1000 ∧ sh.dep ≤ 30 ∧ MapAt K H m as ∧ ∀ (r : V) (H' : Hp), Sm H H' → Rp K H' r sh.d → Q r H'
theorem ok_subst (T : Txt K mg A) : FnOk P w K mg base CX0 33 A.f_substitute A.d_substitute ["shape", "mapping"] (spSubst K) := by
  have G_replace_variables : FnOk P w K mg base CX0 32 A.f_replace_variables A.d_replace_variables _ _ := ok_repl T 30
  have G_within_bounds : FnOk P w K mg base CX0 2 A.f_within_bounds A.d_within_bounds _ _ := ok_within T
  refine T.F_substitute.ok (k := 32) sc_substitute (fun vs H Q E h => ?_) (fun cdv Ar outer s H vs Q E hr h => ?_)
  · obtain ⟨x, sh, m, as, rfl, _⟩ := h
    rfl
  · obtain ⟨x, sh, m, as, rfl, hx, hp, has, hz, hd, hm, k⟩ := h
    refine ⟨_, (pss_cons (ps_set (i := 2) sc_substitute.nd rfl (Or.inl rfl) (pe_call G_replace_variables (hr.mono (by first | decide | omega)) rfl T.g_replace_variables T.F_replace_variables.kp T.b_replace_variables .nil pass0 (pa_cons (pv 0) (pa_cons (pv 1) pa_nil)))) (pss_cons (ps_if (pt_not (pt_val (pe_call G_within_bounds (hr.mono (by first | decide | omega)) rfl T.g_within_bounds T.F_within_bounds.kp T.b_within_bounds .nil pass0 (pa_cons (pv 2) pa_nil)) (by intro _; rfl))) pss_never pss_nil) (pss_one (ps_ret (pv 2))))), ?_⟩
    refine ⟨_, rfl, _, rfl, x, sh, m, as, rfl, hx, hd, by omega, hm, fun r H1 s1 hr1 => ?_⟩
    rw [repl_zero as has sh hp] at hr1
    refine ⟨_, rfl, r, sh, rfl, hr1, hz, by omega, fun H2 s2 => ?_⟩
    refine ⟨true, rfl, iteF (A := _) ?_⟩
    exact ⟨_, rfl, k r H2 (s1.sm s2) (hr1.on (KT.same s2))⟩
def spRenum (K : PySem.W.Frag) : Sp := fun vs H Q _ => ∃ (x : V) (sh : Sh), vs = [x] ∧ Rp K H x sh.d ∧ sh.vp p0 = true ∧ sh.sz ≤ 1000 ∧ sh.dep ≤ 30 ∧ ∀ (a : Addr) (n : V) (r : V) (H' : Hp), Sm H H' → SqT K H' a [n, r] → Rp K H' r sh.d → Q (.ref a) H'
theorem ok_renum (T : Txt K mg A) : FnOk P w K mg base CX0 34 A.f_renumber A.d_renumber ["shape"] (spRenum K) := by
  have G_substitute : FnOk P w K mg base CX0 33 A.f_substitute A.d_substitute _ _ := ok_subst T
  have G_variables : FnOk P w K mg base CX0 2 A.f_variables A.d_variables _ _ := ok_vars T
  refine T.F_renumber.ok (k := 33) sc_renumber (fun vs H Q E h => ?_) (fun cdv Ar outer s H vs Q E hr h => ?_)
  · obtain ⟨x, sh, rfl, _⟩ := h
    rfl
  · obtain ⟨x, sh, rfl, hx, hp, hz, hd, k⟩ := h
    refine ⟨_, (pss_cons (ps_set (i := 1) sc_renumber.nd rfl (Or.inl rfl) pe_dnewK) (pss_cons (ps_for PassesOwn.never rfl (pi_tup (pe_call G_variables (hr.mono (by first | decide | omega)) rfl T.g_variables T.F_variables.kp T.b_variables .nil pass0 (pa_cons (pv 0) pa_nil))) (pg_name (i := 2) sc_renumber.nd rfl (Or.inl rfl)) (pss_one (ps_if (pt_cmpR op_lt (pv 2) (pe_glob (v := .int 1000000) rfl T.g_FREE ⟨_, rfl⟩) (nomark _)) (pss_one (ps_dput (hu_of hr) (pv 1) (pv 2) (pe_tup (pa_cons pe_str (pa_cons (pe_callB call_lenD (by rfl) T.n_len PySem.boot_len (pa_cons (pv 1) pa_nil)) pa_nil))) rfl)) pss_nil))) (pss_one (ps_ret (pe_tup (pa_cons (pe_callB call_lenD (by rfl) T.n_len PySem.boot_len (pa_cons (pv 1) pa_nil)) (pa_cons (pe_call G_substitute (hr.mono (by first | decide | omega)) rfl T.g_substitute T.F_substitute.kp T.b_substitute .nil pass0 (pa_cons (pv 0) (pa_cons (pv 1) pa_nil))) pa_nil))))))), ?_⟩
    intro m hm
    have S0 : Sm H (upd H m (.dK [])) := Sm.new hm
    refine ⟨_, rfl, x, sh, p0, rfl, hx.on (KT.same S0), hp, hz, fun a ns H1 s1 hns nd pn => ⟨a, rfl, ⟨_, hns⟩, ?_⟩⟩
    have em : H1 m = some (.dK []) := s1 _ _ upd_same
    have S1 : Sm H H1 := S0.sm s1
    rcases nodup_zero nd pn with rfl | rfl
    · refine for_tup (xs := []) (fun i σ'' H'' => σ'' = [some x, some (.ref m), none] ∧ H'' = H1) ⟨rfl, rfl⟩ ?_ ?_ ?_
      · rintro i σ'' H'' _ ⟨_, rfl⟩
        exact hns
      · rintro i v σ'' H'' hv _
        cases hv
      · rintro σ'' H'' ⟨rfl, rfl⟩
        have mm : MapAt K H'' m [] := ⟨[], em, fun i => by rw [pick_nil]; exact valV_nil⟩
        refine ⟨_, rfl, m, _, rfl, em, _, rfl, _, rfl, x, sh, m, [], rfl, hx.on (KT.same S1), hp, (.inl rfl), hz, hd, mm, fun r H3 s3 hr3 => ?_⟩
        refine ⟨(show 2 ≤ sizeLine by decide), fun t ht => ?_⟩
        exact k t _ r _ ((Sm.sm S1 s3).on ht) (.inl (Rd.of upd_same)) (hr3.on (KT.upd_new ht))
    · refine for_tup (xs := [.int 0]) (fun i σ'' H'' => (i = 0 ∧ σ'' = [some x, some (.ref m), none] ∧ H'' = H1) ∨ (i = 1 ∧ σ'' = [some x, some (.ref m), some (.int 0)] ∧ Sm H H'' ∧ (∃ kvs, H'' m = some (.dK kvs)) ∧ SqT K H'' a [.int 0] ∧ MapAt K H'' m [.v 0])) (.inl ⟨rfl, rfl, rfl⟩) ?_ ?_ ?_
      · rintro i σ'' H'' _ (⟨_, _, rfl⟩ | ⟨_, _, _, _, h, _⟩)
        · exact hns
        · exact h
      · rintro i v σ'' H'' hv (⟨rfl, rfl, rfl⟩ | ⟨rfl, _⟩)
        · have ev : v = .int 0 := by simpa using hv.symm
          subst ev
          refine ⟨_, rfl, _, _, rfl, rfl, _, rfl, iteY (by decide) ?_⟩
          refine ⟨_, rfl, m, _, rfl, em, (show 2 ≤ sizeLine by decide), fun t ht => ?_⟩
          have em3 : (upd H'' t (.tup [.str "v", .int 0])) m = some (.dK []) := by rw [upd_ne (ne_of_none em ht)]; exact em
          refine ⟨_, rfl, _, rfl, m, _, rfl, DPut.k (k := Sum.inl (0 : Int)) em3 (by decide), ?_⟩
          have S3 : Sm H (upd H'' t (.tup [.str "v", .int 0])) := S1.on ht
          have rt : Rp K (upd H'' t (.tup [.str "v", .int 0])) (.ref t) (Sh.v 0).d := by
            simp only [Sh.d]
            exact Rp.mk upd_same (.cons (.str _ (by decide +kernel)) (.cons (.int _) .nil))
          have hns3 := (KT.upd_new (o := .tup [.str "v", .int 0]) ht).sqt hns
          have ktu : KT (upd H'' t (.tup [.str "v", .int 0])) (upd (upd H'' t (.tup [.str "v", .int 0])) m (.dK (putK [] (Sum.inl (0 : Int) : Key) (.ref t)))) := KT.upd_lst (NT.dk em3)
          refine .inr ⟨rfl, rfl, S3.upd hm, ⟨_, upd_same⟩, ktu.sqt hns3, _, upd_same, fun i => ?_⟩
          rw [valV_put]
          by_cases c : i = 0
          · subst c
            exact ⟨.ref t, rfl, rt.on ktu⟩
          · have e1 : pick [Sh.v 0] i = none := by
              unfold pick
              split
              · rw [List.getElem?_eq_none]
                simp only [List.length_cons, List.length_nil]
                omega
              · rfl
            rw [e1]
            dsimp only
            rw [if_neg (fun z => c (Sum.inl.inj z))]
            exact valV_nil
        · cases hv
      · rintro σ'' H'' (⟨h, _⟩ | ⟨_, rfl, S2, ⟨kvs, em2⟩, _, mm⟩)
        · cases h
        · refine ⟨_, rfl, m, _, rfl, em2, _, rfl, _, rfl, x, sh, m, [.v 0], rfl, hx.on (KT.same S2), hp, (.inr rfl), hz, hd, mm, fun r H3 s3 hr3 => ?_⟩
          refine ⟨(show 2 ≤ sizeLine by decide), fun t ht => ?_⟩
          exact k t _ r _ ((Sm.sm S2 s3).on ht) (.inl (Rd.of upd_same)) (hr3.on (KT.upd_new ht))
def spScheme (K : PySem.W.Frag) : Sp := fun vs H Q _ => ∃ (x : V) (n : Str) (ar : Int) (arg : Option Sh) (res : Sh) (i : Int) (fam : PyData), vs = [x] ∧ Rp K H x (En.con n ar arg res i fam).d ∧ (conS arg res).vp p0 = true ∧ (conS arg res).sz ≤ 1000 ∧ (conS arg res).dep ≤ 30 ∧
  ∀ (a : Addr) (n : V) (r : V) (H' : Hp), Sm H H' → SqT K H' a [n, r] → Rp K H' r (conS arg res).d → Q (.ref a) H'
theorem ok_scheme (T : Txt K mg A) : FnOk P w K mg base CX0 35 A.f_constructor_scheme A.d_constructor_scheme ["entry"] (spScheme K) := by
  have G_renumber : FnOk P w K mg base CX0 34 A.f_renumber A.d_renumber _ _ := ok_renum T
  refine T.F_constructor_scheme.ok (k := 34) sc_constructor_scheme (fun vs H Q E h => ?_) (fun cdv Ar outer s H vs Q E hr h => ?_)
  · obtain ⟨x, n, ar, arg, res, i, fam, rfl, _⟩ := h
    rfl
  · obtain ⟨x, n, ar, arg, res, i, fam, rfl, hx, hp, hz, hd, k⟩ := h
    refine ⟨_, (pss_cons (ps_set (i := 1) sc_constructor_scheme.nd rfl (Or.inl rfl) (pe_glob (v := .ref A.c_EXN) rfl T.g_EXN rfl)) (pss_cons (ps_set (i := 2) sc_constructor_scheme.nd rfl (Or.inl rfl) (pe_ix (ixt (K := K) rfl) (pv 0) pe_int (fun _ _ => rfl))) (pss_cons (ps_if (pt_cmpR op_eq (pe_ix (ixt (K := K) rfl) (pv 0) pe_int (fun _ _ => rfl)) pe_str (nomark _)) (pss_cons (ps_set (i := 2) sc_constructor_scheme.nd rfl (Or.inl rfl) (pe_ix (ixt (K := K) rfl) (pv 0) pe_int (fun _ _ => rfl))) (pss_one (ps_set (i := 1) sc_constructor_scheme.nd rfl (Or.inl rfl) (pe_ix (ixt (K := K) rfl) (pv 0) pe_int (fun _ _ => rfl))))) pss_nil) (pss_cons (ps_if (pt_cmpR op_isN (pv 2) pe_non (nomark _)) (pss_one (ps_ret (pe_call G_renumber (hr.mono (by first | decide | omega)) rfl T.g_renumber T.F_renumber.kp T.b_renumber .nil pass0 (pa_cons (pv 1) pa_nil)))) pss_nil) (pss_one (ps_ret (pe_call G_renumber (hr.mono (by first | decide | omega)) rfl T.g_renumber T.F_renumber.kp T.b_renumber .nil pass0 (pa_cons (pe_tup (pa_cons pe_str (pa_cons (pv 2) (pa_cons (pv 1) pa_nil)))) pa_nil)))))))), ?_⟩
    simp only [En.d] at hx
    obtain ⟨a, zs, rfl, sa, ra⟩ := hx.tup_inv
    obtain ⟨v0, w1, rfl, h0, ra⟩ := ra.cons_inv
    obtain ⟨v1, w1, rfl, h1, ra⟩ := ra.cons_inv
    obtain ⟨v2, w1, rfl, h2, ra⟩ := ra.cons_inv
    obtain ⟨v3, w1, rfl, h3, ra⟩ := ra.cons_inv
    obtain ⟨v4, w1, rfl, h4, ra⟩ := ra.cons_inv
    have e0 := h0.str_inv
    subst e0
    refine ⟨_, rfl, a, _, _, _, rfl, rfl, sa, at2, ?_⟩
    refine ⟨_, rfl, a, _, _, _, rfl, rfl, sa, at0, rfl, _, rfl, iteY (by decide +kernel) ?_⟩
    refine ⟨_, rfl, a, _, _, _, rfl, rfl, sa, at3, ?_⟩
    refine ⟨_, rfl, a, _, _, _, rfl, rfl, sa, atI_nat (j := 4) rfl, ?_⟩
    cases arg with
    | none =>
      have e3 : v3 = .non := h3.non_inv
      subst e3
      refine ⟨_, rfl, rfl, _, rfl, iteY rfl ?_⟩
      exact ⟨_, rfl, v4, res, rfl, h4, hp, hz, hd, fun a n r H' s1 h1 h2 => k a n r H' s1 h1 h2⟩
    | some ar0 =>
      obtain ⟨yr, rfl⟩ := Sh.ref ar0 h3
      refine ⟨_, rfl, rfl, _, rfl, iteN rfl ?_⟩
      refine ⟨_, rfl, _, rfl, (show 3 ≤ sizeLine by decide), fun t ht => ?_⟩
      have kt := KT.upd_new (o := .tup [.str "f", .ref yr, v4]) ht
      have rt : Rp K (upd H t (.tup [.str "f", .ref yr, v4])) (.ref t) (conS (some ar0) res).d := by
        simp only [conS, Sh.d]
        exact Rp.mk upd_same (.cons (.str _ (by decide +kernel)) (.cons (h3.on kt) (.cons (h4.on kt) .nil)))
      exact ⟨.ref t, _, rfl, rt, hp, hz, hd, fun a n r H' s1 h1 h2 => k a n r H' ((Sm.new ht).sm s1) h1 h2⟩
end
end K87

set_option Elab.async false
set_option maxRecDepth 100000
set_option linter.all false
set_option maxHeartbeats 40000000
namespace K87
open PySem L2 GD AG RG
section
variable {P : Program} {w : World} {K : PySem.W.Frag} {mg : Str → Option Value} {base : Heap} {A : Adr}
theorem en_inv {H : Hp} {x : V} {e : En} (h : Rp K H x e.d) : ∃ a ws, x = .ref a ∧ SqT K H a (.str e.tag :: .str e.name :: ws) := by
  obtain ⟨r, er⟩ := e.d_cons
  rw [er] at h
  obtain ⟨a, zs, rfl, sa, ra⟩ := h.tup_inv
  obtain ⟨v0, w1, rfl, h0, ra⟩ := ra.cons_inv
  obtain ⟨v1, w1, rfl, h1, ra⟩ := ra.cons_inv
  have e0 := h0.str_inv
  have e1 := h1.str_inv
  subst e0 e1
  exact ⟨a, w1, rfl, sa⟩
theorem en_name {H : Hp} {x : V} {e : En} (h : Rp K H x e.d) : Rp K H (.str e.name) (.str e.name) := by
  obtain ⟨r, er⟩ := e.d_cons
  rw [er] at h
  obtain ⟨a, zs, rfl, sa, ra⟩ := h.tup_inv
  obtain ⟨v0, w1, rfl, h0, ra⟩ := ra.cons_inv
  obtain ⟨v1, w1, rfl, h1, ra⟩ := ra.cons_inv
  have e1 := h1.str_inv
  subst e1
  exact h1
def spSpace (K : PySem.W.Frag) : Sp := fun vs H Q _ => ∃ (x : V) (e : En), vs = [x] ∧ Rp K H x e.d ∧ Q (.str e.space) H
theorem ok_space (T : Txt K mg A) : FnOk P w K mg base CX0 1 A.f_space_of A.d_space_of ["entry"] (spSpace K) := by
  refine T.F_space_of.ok sc_space_of (fun vs H Q E h => ?_) (fun cdv Ar outer s H vs Q E hr h => ?_)
  · obtain ⟨x, e, rfl, _⟩ := h
    rfl
  · obtain ⟨x, e, rfl, hx, k⟩ := h
    refine ⟨_, (pss_cons (ps_if (pt_cmpR op_eq (pe_ix (ixt (K := K) rfl) (pv 0) pe_int (fun _ _ => rfl)) pe_str (nomark _)) (pss_one (ps_ret pe_str)) pss_nil) (pss_one (ps_ret (pe_ix (ixt (K := K) rfl) (pv 0) pe_int (fun _ _ => rfl))))), ?_⟩
    obtain ⟨a, ws, rfl, sa⟩ := en_inv hx
    unfold En.space at k
    refine ⟨_, rfl, a, _, _, _, rfl, rfl, sa, at0, rfl, _, rfl, ?_⟩
    rw [dec_s]
    by_cases c : e.tag = "exn"
    · rw [decide_eq_true c]
      rw [if_pos c] at k
      exact iteT (B := _) k
    · rw [decide_eq_false c]
      rw [if_neg c] at k
      refine iteF (A := _) ?_
      exact ⟨_, rfl, a, _, _, _, rfl, rfl, sa, at0, k⟩
theorem ok_space2 (T : Txt K mg A) : FnOk P w K mg base CX0 1 A.f_space_of_entry A.d_space_of_entry ["entry"] (spSpace K) := by
  refine T.F_space_of_entry.ok sc_space_of_entry (fun vs H Q E h => ?_) (fun cdv Ar outer s H vs Q E hr h => ?_)
  · obtain ⟨x, e, rfl, _⟩ := h
    rfl
  · obtain ⟨x, e, rfl, hx, k⟩ := h
    refine ⟨_, (pss_one (ps_ret (pe_ifExp (pt_cmpR op_eq (pe_ix (ixt (K := K) rfl) (pv 0) pe_int (fun _ _ => rfl)) pe_str (nomark _)) pe_str (pe_ix (ixt (K := K) rfl) (pv 0) pe_int (fun _ _ => rfl))))), ?_⟩
    obtain ⟨a, ws, rfl, sa⟩ := en_inv hx
    unfold En.space at k
    refine ⟨_, rfl, a, _, _, _, rfl, rfl, sa, at0, rfl, _, rfl, ?_⟩
    rw [dec_s]
    by_cases c : e.tag = "exn"
    · rw [decide_eq_true c]
      rw [if_pos c] at k
      exact iteT (B := _) k
    · rw [decide_eq_false c]
      rw [if_neg c] at k
      refine iteF (A := _) ?_
      exact ⟨_, rfl, a, _, _, _, rfl, rfl, sa, at0, k⟩
theorem ok_space3 (T : Txt K mg A) : FnOk P w K mg base CX0 1 A.f__law_space A.d__law_space ["entry"] (spSpace K) := by
  refine T.F__law_space.ok sc__law_space (fun vs H Q E h => ?_) (fun cdv Ar outer s H vs Q E hr h => ?_)
  · obtain ⟨x, e, rfl, _⟩ := h
    rfl
  · obtain ⟨x, e, rfl, hx, k⟩ := h
    refine ⟨_, (pss_one (ps_ret (pe_ifExp (pt_cmpR op_eq (pe_ix (ixt (K := K) rfl) (pv 0) pe_int (fun _ _ => rfl)) pe_str (nomark _)) pe_str (pe_ix (ixt (K := K) rfl) (pv 0) pe_int (fun _ _ => rfl))))), ?_⟩
    obtain ⟨a, ws, rfl, sa⟩ := en_inv hx
    unfold En.space at k
    refine ⟨_, rfl, a, _, _, _, rfl, rfl, sa, at0, rfl, _, rfl, ?_⟩
    rw [dec_s]
    by_cases c : e.tag = "exn"
    · rw [decide_eq_true c]
      rw [if_pos c] at k
      exact iteT (B := _) k
    · rw [decide_eq_false c]
      rw [if_neg c] at k
      refine iteF (A := _) ?_
      exact ⟨_, rfl, a, _, _, _, rfl, rfl, sa, at0, k⟩
theorem ends_get {H : Hp} {xs : List V} {es : List En} {i : Nat} {v : V} (h : RpAll K H xs (En.ds es)) (e : xs[i]? = some v) : ∃ en, es[i]? = some en ∧ Rp K H v en.d := by
  obtain ⟨d, ed, rd⟩ := h.getV e
  rw [ends_map, List.getElem?_map] at ed
  cases e1 : es[i]? with
  | none => rw [e1] at ed; cases ed
  | some en =>
    rw [e1] at ed
    simp at ed
    subst ed
    exact ⟨en, rfl, rd⟩
def spLast (K : PySem.W.Frag) : Sp := fun vs H Q _ => ∃ (x : V) (es : List En) (sp nm : Str), vs = [x, .str sp, .str nm] ∧ Rp K H x (.tuple (En.ds es)) ∧ ∀ (v : V) (H' : Hp), Sm H H' → Rp K H' v (optD (lastE es sp nm)) → Q v H'
theorem ok_last (T : Txt K mg A) : FnOk P w K mg base CX0 2 A.f_last_entry A.d_last_entry ["entries", "space", "name"] (spLast K) := by
  have G_space_of : FnOk P w K mg base CX0 1 A.f_space_of A.d_space_of _ _ := ok_space T
  refine T.F_last_entry.ok sc_last_entry (fun vs H Q E h => ?_) (fun cdv Ar outer s H vs Q E hr h => ?_)
  · obtain ⟨x, es, sp, nm, rfl, _⟩ := h
    rfl
  · obtain ⟨x, es, sp, nm, rfl, hx, k⟩ := h
    refine ⟨_, (pss_cons (ps_for PassesOwn.never rfl (RT.pi_revA (by rfl) T.n_reversed (pv 0)) (pg_name (i := 3) sc_last_entry.nd rfl (Or.inl rfl)) (pss_one (ps_if (PW.pt (pw_and (pt_cmpR op_eq (pe_ix (ixt (K := K) rfl) (pv 3) pe_int (fun _ _ => rfl)) (pv 2) (nomark _)) (pw_and1 (pt_cmpR op_eq (pe_call G_space_of (hr.mono (by first | decide | omega)) rfl T.g_space_of T.F_space_of.kp T.b_space_of .nil pass0 (pa_cons (pv 3) pa_nil)) (pv 1) (nomark _))))) (pss_one (ps_ret (pv 3))) pss_nil))) (pss_one (ps_ret pe_non))), ?_⟩
    obtain ⟨a, xs, rfl, sa, ra⟩ := hx.tup_inv
    have hlen : xs.length = es.length := by rw [ra.length, ends_len]
    refine ⟨_, rfl, a, xs, rfl, .inr ⟨sa, ?_⟩⟩
    refine RT.for_ItvT (xs := xs) (fun i σ' H' => ∃ o, σ' = [some (.ref a), some (.str sp), some (.str nm), o] ∧ Sm H H' ∧ (es.reverse.take i).find? (fun e => decide (e.name = nm) && decide (e.space = sp)) = none) ⟨_, rfl, Sm.refl', by simp⟩ ?_ ?_ ?_
    · rintro i σ' H' ⟨_, _, s1, _⟩
      exact (KT.same s1).sqt sa
    · rintro i v σ' H' hi hv ⟨o, rfl, s1, hf⟩
      obtain ⟨en, e1, ren⟩ := ends_get (ra.on (KT.same s1)) hv
      have e2 : es.reverse[i]? = some en := by
        rw [List.getElem?_reverse (by omega), ← hlen]
        exact e1
      obtain ⟨b, ws, rfl, sb⟩ := en_inv ren
      refine ⟨_, rfl, b, _, _, _, rfl, rfl, sb, at1, _, rfl, rfl, _, rfl, ?_⟩
      rw [dec_s]
      by_cases c : en.name = nm
      · rw [decide_eq_true c]
        refine iteT (B := _) ?_
        refine ⟨_, rfl, _, en, rfl, ren, _, rfl, rfl, _, rfl, ?_⟩
        rw [dec_s]
        by_cases c2 : en.space = sp
        · rw [decide_eq_true c2]
          refine iteT (B := _) ?_
          have ef : lastE es sp nm = some en := find_hit hf e2 (by simp [c, c2])
          refine ⟨_, rfl, k _ H' s1 ?_⟩
          rw [ef]
          exact ren
        · rw [decide_eq_false c2]
          exact iteF (A := _) ⟨_, rfl, s1, find_miss hf e2 (by simp [c2])⟩
      · rw [decide_eq_false c]
        refine iteF (A := _) ?_
        exact iteF (A := _) ⟨_, rfl, s1, find_miss hf e2 (by simp [c])⟩
    · rintro σ' H' ⟨o, rfl, s1, hf⟩
      rw [List.take_of_length_le (by rw [List.length_reverse]; omega)] at hf
      have ef : lastE es sp nm = none := hf
      refine k _ H' s1 ?_
      rw [ef]
      exact .non
theorem sIx_m1 {n d : Nat} (h : 0 < n) : HT.sIx n d (some (-1)) = n - 1 := by
  show (if (-1 : Int) < 0 then ((-1 : Int) + (n : Int)).toNat else min (-1 : Int).toNat n) = n - 1
  rw [if_pos (by decide)]
  omega
/-- x[:-1] -/
theorem slA_init {H : Hp} {Q : VK} {x : V} {ds : List PyData} (hn : 0 < ds.length) (hx : Rp K H x (.tuple ds))
    (q : ∀ (r : V) (H' : Hp), (∀ a o, H a = some o → H' a = some o) → Rp K H' r (.tuple (ds.take (ds.length - 1))) → Q r H') : rSlA K x none (some (-1)) H Q := by
  refine slA_rp hx fun r H' s h => q r H' s ?_
  rw [sIx_none, sIx_m1 hn, List.drop_zero, Nat.sub_zero] at h
  exact h
theorem at_end {xs : List V} {v : V} (h : xs[xs.length - 1]? = some v) : atI xs (-1) = some v := by
  have hn : 0 < xs.length := by have := (List.getElem?_eq_some_iff.mp h).1; omega
  have : xs = xs.take (xs.length - 1) ++ [v] := by
    have := take_snoc h
    rw [show xs.length - 1 + 1 = xs.length by omega, List.take_length] at this
    exact this
  rw [this]
  exact atI_last _ _
theorem path_get {H : Hp} {xs : List V} {p : List Str} {i : Nat} {v : V} (h : RpAll K H xs (p.map PyData.str)) (e : xs[i]? = some v) : ∃ s, p[i]? = some s ∧ v = .str s := by
  obtain ⟨d, ed, rd⟩ := h.getV e
  rw [List.getElem?_map] at ed
  cases e1 : p[i]? with
  | none => rw [e1] at ed; cases ed
  | some s =>
    rw [e1] at ed
    simp at ed
    subst ed
    exact ⟨s, rfl, rd.str_inv⟩
def spLook (K : PySem.W.Frag) : Sp := fun vs H Q _ => ∃ (x y : V) (es : List En) (sp : Str) (p : List Str), vs = [x, .str sp, y] ∧ Rp K H x (.tuple (En.ds es)) ∧ En.wfs es = true ∧ Rp K H y (pathD p) ∧ p ≠ [] ∧ ∀ (v : V) (H' : Hp), Sm H H' → Rp K H' v (optD (lookE es sp p)) → Q v H'
theorem ok_look (T : Txt K mg A) : FnOk P w K mg base CX0 3 A.f_lookup A.d_lookup ["entries", "space", "path"] (spLook K) := by
  have G_last_entry : FnOk P w K mg base CX0 2 A.f_last_entry A.d_last_entry _ _ := ok_last T
  refine T.F_lookup.ok sc_lookup (fun vs H Q E h => ?_) (fun cdv Ar outer s H vs Q E hr h => ?_)
  · obtain ⟨x, y, es, sp, p, rfl, _⟩ := h
    rfl
  · obtain ⟨x, y, es, sp, p, rfl, hx, hw, hy, hp, k⟩ := h
    refine ⟨_, (pss_cons (ps_for PassesOwn.never rfl (pi_tup (pe_slice sl_tupA (pv 2) po_none (po_some (pe_un un_neg pe_int)))) (pg_name (i := 3) sc_lookup.nd rfl (Or.inl rfl)) (pss_cons (ps_set (i := 4) sc_lookup.nd rfl (Or.inl rfl) (pe_call G_last_entry (hr.mono (by first | decide | omega)) rfl T.g_last_entry T.F_last_entry.kp T.b_last_entry .nil pass0 (pa_cons (pv 0) (pa_cons pe_str (pa_cons (pv 3) pa_nil))))) (pss_cons (ps_if (pt_cmpR op_isN (pv 4) pe_non (nomark _)) (pss_one (ps_ret pe_non)) pss_nil) (pss_one (ps_set (i := 0) sc_lookup.nd rfl (Or.inl rfl) (pe_ix (ixt (K := K) rfl) (pv 4) pe_int (fun _ _ => rfl))))))) (pss_one (ps_ret (pe_call G_last_entry (hr.mono (by first | decide | omega)) rfl T.g_last_entry T.F_last_entry.kp T.b_last_entry .nil pass0 (pa_cons (pv 0) (pa_cons (pv 1) (pa_cons (pe_ix (ixt (K := K) rfl) (pv 2) (pe_un un_neg pe_int) (fun _ _ => rfl)) pa_nil))))))), ?_⟩
    have hpl : 0 < p.length := List.length_pos_iff.mpr hp
    refine ⟨_, rfl, ?_⟩
    delta tNoPart
    refine ⟨_, rfl, _, rfl, ?_⟩
    refine slA_init (by rw [List.length_map]; exact hpl) hy fun r H1 s1 hr1 => ?_
    rw [List.length_map, ← List.map_take] at hr1
    obtain ⟨g, gs, rfl, sg, rg⟩ := hr1.tup_inv
    have hgl : gs.length = p.length - 1 := by rw [rg.length, List.length_map, List.length_take]; omega
    refine ⟨g, rfl, ⟨_, sg⟩, ?_⟩
    refine for_tup (xs := gs) (fun i σ' H' => ∃ (o3 o4 : Option V) (ex : V) (es' : List En), σ' = [some ex, some (.str sp), some y, o3, o4] ∧ Sm H1 H' ∧ Rp K H' ex (.tuple (En.ds es')) ∧ En.wfs es' = true ∧ lookE es sp p = lookE es' sp (p.drop i)) ?_ ?_ ?_ ?_
    · exact ⟨none, none, x, es, rfl, Sm.refl', hx.on (KT.same s1), hw, rfl⟩
    · rintro i σ' H' _ ⟨_, _, _, _, _, s2, _⟩
      exact (KT.same s2).sqt sg
    · rintro i v σ' H' hv ⟨o3, o4, ex, es', rfl, s2, hex, hw', el⟩
      obtain ⟨z, ez, rfl⟩ := path_get rg hv
      have hi : i < p.length - 1 := by rw [← hgl]; exact (List.getElem?_eq_some_iff.mp hv).1
      have ez' : p[i]? = some z := by
        rw [List.getElem?_take] at ez
        rw [if_pos hi] at ez
        exact ez
      have ed : p.drop i = z :: p.drop (i + 1) := by
        have h1 := (List.getElem?_eq_some_iff.mp ez').2
        rw [← h1]
        exact (List.getElem_cons_drop (by omega)).symm
      obtain ⟨z2, r2, e2⟩ : ∃ z2 r2, p.drop (i + 1) = z2 :: r2 := by
        cases e : p.drop (i + 1) with
        | nil => have := congrArg List.length e; rw [List.length_drop, List.length_nil] at this; omega
        | cons z2 r2 => exact ⟨z2, r2, rfl⟩
      rw [ed, e2, lookE_step] at el
      refine ⟨_, rfl, _, rfl, ex, es', "module", z, rfl, hex, fun v H2 s3 hv2 => ?_⟩
      cases e1 : lastE es' "module" z with
      | none =>
        rw [e1] at hv2 el
        have ev : v = .non := hv2.non_inv
        subst ev
        refine ⟨_, rfl, rfl, _, rfl, iteY rfl ?_⟩
        refine k _ H2 (Sm.sm s1 (s2.sm s3)) ?_
        rw [el]
        exact .non
      | some en =>
        rw [e1] at hv2 el
        obtain ⟨hm, hn, hs⟩ := lastE_mem e1
        obtain ⟨n, l, rfl⟩ := mod_of (wfs_mem hw' hm) ((space_mod en).mp hs)
        have hwl : En.wfs l = true := by
          have := wfs_mem hw' hm
          simp only [En.wf, Bool.and_eq_true, decide_eq_true_eq] at this
          exact this.2
        simp only [optD, En.d] at hv2
        obtain ⟨b, zs, rfl, sb, rb⟩ := hv2.tup_inv
        obtain ⟨v0, w1, rfl, h0, rb⟩ := rb.cons_inv
        obtain ⟨v1, w1, rfl, h1, rb⟩ := rb.cons_inv
        obtain ⟨v2, w1, rfl, h2, rb⟩ := rb.cons_inv
        refine ⟨_, rfl, rfl, _, rfl, iteN rfl ?_⟩
        refine ⟨_, rfl, b, _, _, _, rfl, rfl, sb, at2, ?_⟩
        exact ⟨_, _, v2, l, rfl, s2.sm s3, h2, hwl, by rw [el, e2]⟩
    · rintro σ' H' ⟨o3, o4, ex, es', rfl, s2, hex, hw', el⟩
      have s02 : Sm H H' := Sm.sm s1 s2
      obtain ⟨b, ys, rfl, sb, rb⟩ := (hy.on (KT.same s02)).tup_inv
      have hbl : ys.length = p.length := by rw [rb.length, List.length_map]
      obtain ⟨v, ev⟩ : ∃ v, ys[ys.length - 1]? = some v := ⟨_, List.getElem?_eq_getElem (by omega)⟩
      obtain ⟨z, ez, rfl⟩ := path_get rb ev
      have ed : p.drop gs.length = [z] := by
        rw [hbl] at ez
        have h1 := (List.getElem?_eq_some_iff.mp ez).2
        rw [hgl, ← h1, ← List.getElem_cons_drop (by omega), List.drop_of_length_le (by omega)]
      rw [ed, lookE_one] at el
      refine ⟨_, rfl, _, rfl, _, rfl, _, rfl, b, _, _, _, rfl, rfl, sb, at_end ev, ex, es', sp, z, rfl, hex, fun v H2 s3 hv2 => ?_⟩
      refine k v H2 (s02.sm s3) ?_
      rw [el]
      exact hv2
end
end K87

set_option Elab.async false
set_option maxRecDepth 100000
set_option linter.all false
set_option maxHeartbeats 40000000
namespace K87
open PySem L2 GD AG RG
section
variable {P : Program} {w : World} {K : PySem.W.Frag} {mg : Str → Option Value} {base : Heap} {A : Adr}
theorem vars_succ (k : Nat) : vars (k + 1) = vars k ++ [Sh.v (k : Int)] := by
  unfold vars
  rw [List.range_succ, List.map_append]
  rfl
theorem vars_depth (k : Nat) : (PyData.tuple (Sh.ds (vars k))).depth ≤ 60 := by
  have h : ∀ l : List Sh, (∀ s ∈ l, ∃ n, s = Sh.v n) → PyData.depthAll (Sh.ds l) ≤ 1 := by
    intro l
    induction l with
    | nil => intro _; simp [Sh.ds, PyData.depthAll]
    | cons a r ih =>
      intro h
      obtain ⟨n, rfl⟩ := h a (by simp)
      have := ih fun s m => h s (by simp [m])
      simp only [Sh.ds, Sh.d, PyData.depthAll, PyData.depth]
      exact Nat.max_le.mpr ⟨by simp, this⟩
  have := h (vars k) fun s m => by
    unfold vars at m
    obtain ⟨n, _, rfl⟩ := List.mem_map.mp m
    exact ⟨_, rfl⟩
  simp only [PyData.depth]
  omega
def spPars (K : PySem.W.Frag) : Sp := fun vs H Q _ => ∃ (n : Nat), vs = [.int (n : Int)] ∧ n ≤ 100 ∧ ∀ (v : V) (H' : Hp), Sm H H' → Rp K H' v (.tuple (Sh.ds (vars n))) → Q v H'
theorem ok_pars (T : Txt K mg A) : FnOk P w K mg base CX0 1 A.f_parameters A.d_parameters ["k"] (spPars K) := by
  refine T.F_parameters.ok sc_parameters (fun vs H Q E h => ?_) (fun cdv Ar outer s H vs Q E hr h => ?_)
  · obtain ⟨n, rfl, _⟩ := h
    rfl
  · obtain ⟨n, rfl, hn, k⟩ := h
    refine ⟨_, (pss_one (ps_ret (pe_callTy call_tuple_of (by rfl) T.n_tuple (by decide +kernel) (pa_cons (pe_lc (own := [("n", 1)]) (g := gName 1) (tt := tYes) rfl sc_parameters.nd (pi_range1 rfl T.n_range (pa_cons (pv 0) pa_nil)) (blkOk_by (N := N_parameters) (sc := defScope s_parameters) (by decide +kernel)) (fun _ _ _ _ _ => (pg_name (i := 1) sc_parameters.nd rfl (Or.inl rfl))) (fun _ _ _ _ _ => pts_nil) (fun _ _ _ _ _ => (pe_tup (pa_cons pe_str (pa_cons (pv 1) pa_nil))))) pa_nil)))), ?_⟩
    refine ⟨_, rfl, (n : Int), rfl, by omega, by omega, fun D hD => ?_⟩
    refine lc_range (lo := 0) (n := (n : Int).toNat) (fun i H' => Sm H H' ∧ ∃ acc : List V, acc.length = i ∧ H' D = some (.lst acc) ∧ RpAll K H' acc (Sh.ds (vars i))) ?_ ?_ ?_
    · exact ⟨Sm.new hD, [], rfl, upd_same, .nil⟩
    · rintro i H' hi ⟨s1, acc, hal, hacc, hra⟩
      refine ⟨rfl, tYes_do ?_⟩
      refine ⟨_, rfl, (show 2 ≤ sizeLine by decide), fun t ht => ?_⟩
      have ea : (upd H' t (.tup [.str "v", .int (0 + (i : Int))])) D = some (.lst acc) := by rw [upd_ne (ne_of_none hacc ht)]; exact hacc
      have kt1 := KT.upd_new (o := .tup [.str "v", .int (0 + (i : Int))]) ht
      have kt2 : KT (upd H' t (.tup [.str "v", .int (0 + (i : Int))])) (upd (upd H' t (.tup [.str "v", .int (0 + (i : Int))])) D (.lst (acc ++ [.ref t]))) := KT.upd_lst (NT.lst ea)
      refine ⟨acc, ea, small_lt (by omega), (s1.on ht).upd hD, acc ++ [.ref t], by simp [hal], upd_same, ?_⟩
      rw [vars_succ, ds_map, List.map_append, ← ds_map]
      refine RpAll.app ((hra.on kt1).on kt2) (.cons ?_ .nil)
      simp only [Sh.d]
      refine Rp.on (Rp.mk upd_same (.cons (.str _ (by decide +kernel)) (.cons ?_ .nil))) kt2
      rw [Int.zero_add]
      exact .int _
    · rintro H' ⟨s1, acc, hal, hacc, hra⟩
      rw [Int.toNat_natCast] at hra
      refine ⟨D, _, rfl, .inl ⟨SqL.of hacc, fun t ht => ?_⟩⟩
      exact k _ _ (s1.on ht) (Rp.mk upd_same (hra.on (KT.upd_new ht)))
def optI : Option Int → PyData
  | none => .none
  | some s => .int s
def optP : Option (List Str) → PyData
  | none => .none
  | some p => pathD p
theorem shp_inv {H : Hp} {x : V} {m : Str} {n : Nat} {sh : Sh} (h : Rp K H x (En.shp m n sh).d) : ∃ a v, x = .ref a ∧ SqT K H a [.str "shape", .str m, .int (n : Int), v] ∧ Rp K H v sh.d ∧ Rp K H (.str m) (.str m) := by
  simp only [En.d] at h
  obtain ⟨a, zs, rfl, sa, ra⟩ := h.tup_inv
  obtain ⟨v0, w1, rfl, h0, ra⟩ := ra.cons_inv
  obtain ⟨v1, w1, rfl, h1, ra⟩ := ra.cons_inv
  obtain ⟨v2, w1, rfl, h2, ra⟩ := ra.cons_inv
  obtain ⟨v3, w1, rfl, h3, ra⟩ := ra.cons_inv
  have e0 := h0.str_inv
  have e1 := h1.str_inv
  have e2 := h2.int_inv
  have e3 := ra.nil_inv
  subst e0 e1 e2 e3
  exact ⟨a, v3, rfl, sa, h3, h1⟩
/-- a shape's tag, and what stands there of a c -/
theorem sh_tag {H : Hp} {x : V} {sh : Sh} (h : Rp K H x sh.d) : (∃ a s v l, sh = .c s l ∧ x = .ref a ∧ SqT K H a [.str "c", .int s, v] ∧ Rp K H v (.tuple (Sh.ds l))) ∨ ((∀ s l, sh ≠ .c s l) ∧ ∃ a t ws, x = .ref a ∧ SqT K H a (.str t :: ws) ∧ decide (V.str t = V.str "c") = false) := by
  cases sh with
  | v i => obtain ⟨a, rfl, hs⟩ := inv_v h; exact .inr ⟨(fun _ _ z => nomatch z), a, _, _, rfl, hs, by decide +kernel⟩
  | c i l => obtain ⟨a, g, gs, rfl, hs, hg, hl⟩ := inv_c h; exact .inl ⟨a, i, _, l, rfl, rfl, hs, .tup hg hl⟩
  | t l => obtain ⟨a, _, _, rfl, hs, _⟩ := inv_t h; exact .inr ⟨(fun _ _ z => nomatch z), a, _, _, rfl, hs, by decide +kernel⟩
  | f y z => obtain ⟨a, _, _, rfl, hs, _⟩ := inv_f h; exact .inr ⟨(fun _ _ z => nomatch z), a, _, _, rfl, hs, by decide +kernel⟩
theorem stampOf_none {m : Str} {k : Nat} {sh : Sh} (h : ∀ s l, sh ≠ .c s l) : stampOf (.shp m k sh) = none := by
  cases sh with
  | c s l => exact absurd rfl (h s l)
  | _ => rfl
def spStampOf (K : PySem.W.Frag) : Sp := fun vs H Q _ => ∃ (x : V) (m : Str) (n : Nat) (sh : Sh), vs = [x] ∧ Rp K H x (En.shp m n sh).d ∧ n ≤ 100 ∧ ∀ (v : V) (H' : Hp), Sm H H' → Rp K H' v (optI (stampOf (.shp m n sh))) → Q v H'
theorem ok_stampOf (T : Txt K mg A) : FnOk P w K mg base CX0 2 A.f_stamp_of A.d_stamp_of ["entry"] (spStampOf K) := by
  have G_parameters : FnOk P w K mg base CX0 1 A.f_parameters A.d_parameters _ _ := ok_pars T
  refine T.F_stamp_of.ok sc_stamp_of (fun vs H Q E h => ?_) (fun cdv Ar outer s H vs Q E hr h => ?_)
  · obtain ⟨x, m, n, sh, rfl, _⟩ := h
    rfl
  · obtain ⟨x, m, n, sh, rfl, hx, hn, k⟩ := h
    refine ⟨_, (pss_cons (ps_if (PW.pt (pw_and (pt_cmpR op_eq (pe_ix (ixt (K := K) rfl) (pv 0) pe_int (fun _ _ => rfl)) pe_str (nomark _)) (pw_and (pt_cmpR op_eq (pe_ix (ixt (K := K) rfl) (pe_ix (ixt (K := K) rfl) (pv 0) pe_int (fun _ _ => rfl)) pe_int (fun _ _ => rfl)) pe_str (nomark _)) (pw_and1 (pt_cmpR (op_eqS hr.units) (pe_ix (ixt (K := K) rfl) (pe_ix (ixt (K := K) rfl) (pv 0) pe_int (fun _ _ => rfl)) pe_int (fun _ _ => rfl)) (pe_call G_parameters (hr.mono (by first | decide | omega)) rfl T.g_parameters T.F_parameters.kp T.b_parameters .nil pass0 (pa_cons (pe_ix (ixt (K := K) rfl) (pv 0) pe_int (fun _ _ => rfl)) pa_nil)) (nomark _)))))) (pss_one (ps_ret (pe_ix (ixt (K := K) rfl) (pe_ix (ixt (K := K) rfl) (pv 0) pe_int (fun _ _ => rfl)) pe_int (fun _ _ => rfl)))) pss_nil) (pss_one (ps_ret pe_non))), ?_⟩
    obtain ⟨a, v, rfl, sa, hv, _⟩ := shp_inv hx
    refine ⟨_, rfl, a, _, _, _, rfl, rfl, sa, at0, rfl, _, rfl, iteY (by decide +kernel) ?_⟩
    rcases sh_tag hv with ⟨b, s, v2, l, rfl, rfl, sb, hl⟩ | ⟨hne, b, t, ws, rfl, sb, nt⟩
    · refine ⟨_, rfl, a, _, _, _, rfl, rfl, sa, at3, b, _, _, _, rfl, rfl, sb, at0, rfl, _, rfl, iteY (by decide +kernel) ?_⟩
      refine ⟨_, rfl, a, _, _, _, rfl, rfl, sa, at3, b, _, _, _, rfl, rfl, sb, at2, _, rfl, a, _, _, _, rfl, rfl, sa, at2, n, rfl, hn, fun u H1 s1 hu => ?_⟩
      refine ⟨_, _, hl.on (KT.same s1), hu, vars_depth n, _, rfl, ?_⟩
      have kt := KT.same s1
      cases c : PyData.eqv (.tuple (Sh.ds l)) (.tuple (Sh.ds (vars n))) with
      | true =>
        refine iteT (B := _) ?_
        refine ⟨_, rfl, a, _, _, _, rfl, rfl, kt.sqt sa, at3, b, _, _, _, rfl, rfl, kt.sqt sb, at1, k _ _ s1 ?_⟩
        simp only [stampOf, c, if_true, optI]
        exact .int _
      | false =>
        refine iteF (A := _) ?_
        refine k _ _ s1 ?_
        simp only [stampOf, c, optI]
        exact .non
    · refine ⟨_, rfl, a, _, _, _, rfl, rfl, sa, at3, b, _, _, _, rfl, rfl, sb, at0, rfl, _, rfl, iteN nt ?_⟩
      refine iteF (A := _) ?_
      refine k _ _ Sm.refl' ?_
      rw [stampOf_none hne]
      exact .non
def pairD (q : List Str × En) : PyData := .tuple [pathD q.1, q.2.d]
def spPaths (K : PySem.W.Frag) (n : Nat) : Sp := fun vs H Q _ => ∃ (x y : V) (es : List En) (head : List Str), vs = [x, y] ∧ Rp K H x (.tuple (En.ds es)) ∧ Rp K H y (pathD head) ∧ En.wfs es = true ∧ En.deps es ≤ n ∧ es.length ≤ 60 ∧ head.length + n ≤ 10 ∧ n ≤ 3 ∧
  ∀ (a : Addr) (ys : List V) (H' : Hp), Sm H H' → H' a = some (.lst ys) → RpAll K H' ys ((paths es head).map pairD) → Q (.ref a) H'
theorem mod_inv {H : Hp} {x : V} {m : Str} {es : List En} (h : Rp K H x (En.mod m es).d) : ∃ a v, x = .ref a ∧ SqT K H a [.str "module", .str m, v] ∧ Rp K H v (.tuple (En.ds es)) ∧ Rp K H (.str m) (.str m) := by
  simp only [En.d] at h
  obtain ⟨a, zs, rfl, sa, ra⟩ := h.tup_inv
  obtain ⟨v0, w1, rfl, h0, ra⟩ := ra.cons_inv
  obtain ⟨v1, w1, rfl, h1, ra⟩ := ra.cons_inv
  obtain ⟨v2, w1, rfl, h2, ra⟩ := ra.cons_inv
  have e0 := h0.str_inv
  have e1 := h1.str_inv
  have e3 := ra.nil_inv
  subst e0 e1 e3
  exact ⟨a, v2, rfl, sa, h2, h1⟩
theorem pathss_snoc {head : List Str} {es : List En} {i : Nat} {e : En} (h : es[i]? = some e) : En.pathss head (es.take (i + 1)) = En.pathss head (es.take i) ++ En.paths head e := by
  rw [take_snoc h, pathss_app]
  simp [En.pathss]
theorem pathss_le (head : List Str) (es : List En) (i : Nat) : (es.filterMap (shpOf head) ++ En.pathss head (es.take i)).length ≤ (paths es head).length := by
  unfold paths
  conv => rhs; rw [← List.take_append_drop i es]
  rw [List.take_append_drop, List.length_append, List.length_append]
  have : (En.pathss head es).length = (En.pathss head (es.take i)).length + (En.pathss head (es.drop i)).length := by
    rw [← List.length_append, ← pathss_app, List.take_append_drop]
  omega
theorem paths_cap {es : List En} {head : List Str} {n : Nat} (hd : En.deps es ≤ n) (hw : En.wfs es = true) (hl : es.length ≤ 60) (hn : n ≤ 3) : (paths es head).length ≤ 50000 := by
  have h1 := paths_len 3 es head (by omega) hw
  have : es.length * 9 ^ 3 ≤ 60 * 9 ^ 3 := Nat.mul_le_mul_right _ hl
  omega
theorem fm_snoc {head : List Str} {es : List En} {i : Nat} {e : En} (h : es[i]? = some e) : (es.take (i + 1)).filterMap (shpOf head) = (es.take i).filterMap (shpOf head) ++ (match shpOf head e with
  | some q => [q]
  | none => []) := by
  rw [take_snoc h, List.filterMap_append]
  congr 1
  cases e1 : shpOf head e <;> simp [List.filterMap, e1]
theorem pathD_snoc (head : List Str) (m : Str) : pathD (head ++ [m]) = .tuple (head.map PyData.str ++ [PyData.str m]) := by
  unfold pathD
  rw [List.map_append]
  rfl
/-- head + (name,) -/
theorem cat_head {H : Hp} {y : V} {head : List Str} {m : Str} {Q : VK} {t : Addr} (hy : Rp K H y (pathD head)) (hm : Rp K H (.str m) (.str m)) (hl : head.length ≤ 100) (ht : H t = none)
    (q : ∀ (r : V) (H' : Hp), Sm H H' → Rp K H' r (pathD (head ++ [m])) → Q r H') : rCatA K y (.ref t) (upd H t (.tup [.str m])) Q := by
  have kt := KT.upd_new (o := .tup [.str m]) ht
  refine catA_rp (hy.on kt) (Rp.mk upd_same (.cons (hm.on kt) .nil)) ?_ fun r H' s h => q r H' ((Sm.new ht).sm s) (by rw [pathD_snoc]; exact h)
  rw [List.length_map]
  exact small_le (by simp only [List.length_cons, List.length_nil]; omega)
theorem pair_rp {H : Hp} {r v : V} {q : List Str × En} {t : Addr} (h1 : Rp K H r (pathD q.1)) (h2 : Rp K H v q.2.d) (ht : H t = none) : Rp K (upd H t (.tup [r, v])) (.ref t) (pairD q) :=
  have kt := KT.upd_new (o := .tup [r, v]) ht
  Rp.mk upd_same (.cons (h1.on kt) (.cons (h2.on kt) .nil))
/-- one less -/
def Less (sp : Nat → Sp) (n : Nat) : Sp := fun vs H Q E => ∃ n', n = n' + 1 ∧ sp n' vs H Q E
theorem ok_pathsS (T : Txt K mg A) (n : Nat) (G : FnOk P w K mg base CX0 (n + 1) A.f_shape_paths A.d_shape_paths ["entries", "head"] (Less (spPaths K) n)) : FnOk P w K mg base CX0 (n + 2) A.f_shape_paths A.d_shape_paths ["entries", "head"] (spPaths K n) := by
  have G_shape_paths : FnOk P w K mg base CX0 (n + 1) A.f_shape_paths A.d_shape_paths _ _ := G
  refine T.F_shape_paths.ok (k := n + 1) sc_shape_paths (fun vs H Q E h => ?_) (fun cdv Ar outer s H vs Q E hr h => ?_)
  · obtain ⟨x, y, es, head, rfl, _⟩ := h
    rfl
  · obtain ⟨x, y, es, head, rfl, hx, hy, hw, hd, hl, hh, hn, k⟩ := h
    refine ⟨_, (pss_cons (ps_set (i := 2) sc_shape_paths.nd rfl (Or.inl rfl) (pe_lst pa_nil)) (pss_cons (ps_for PassesOwn.never rfl (pi_tup (pv 0)) (pg_name (i := 3) sc_shape_paths.nd rfl (Or.inl rfl)) (pss_one (ps_if (pt_cmpR op_eq (pe_ix (ixt (K := K) rfl) (pv 3) pe_int (fun _ _ => rfl)) pe_str (nomark _)) (pss_one (ps_expr (pe_bm PySem.F.plainAttrs_list PySem.F.slot_list_append PySem.F.type_list_append mt_append (pv 2) (pa_cons (pe_tup (pa_cons (pe_op op_catA (pv 1) (pe_tup (pa_cons (pe_ix (ixt (K := K) rfl) (pv 3) pe_int (fun _ _ => rfl)) pa_nil))) (pa_cons (pv 3) pa_nil))) pa_nil)))) pss_nil))) (pss_cons (ps_for PassesOwn.never rfl (pi_tup (pv 0)) (pg_name (i := 3) sc_shape_paths.nd rfl (Or.inl rfl)) (pss_one (ps_if (pt_cmpR op_eq (pe_ix (ixt (K := K) rfl) (pv 3) pe_int (fun _ _ => rfl)) pe_str (nomark _)) (pss_one (ps_set (i := 2) sc_shape_paths.nd rfl (Or.inl rfl) (pe_op op_cat (pv 2) (pe_call G_shape_paths (hr.mono (by first | decide | omega)) rfl T.g_shape_paths T.F_shape_paths.kp T.b_shape_paths .nil pass0 (pa_cons (pe_ix (ixt (K := K) rfl) (pv 3) pe_int (fun _ _ => rfl)) (pa_cons (pe_op op_catA (pv 1) (pe_tup (pa_cons (pe_ix (ixt (K := K) rfl) (pv 3) pe_int (fun _ _ => rfl)) pa_nil))) pa_nil)))))) pss_nil))) (pss_one (ps_ret (pv 2)))))), ?_⟩
    refine ⟨Nat.zero_le _, fun f hf => ?_⟩
    obtain ⟨a, xs, rfl, sa, ra⟩ := hx.tup_inv
    have hcap := paths_cap (head := head) hd hw hl hn
    have hle0 := pathss_le head es 0
    rw [List.length_append] at hle0
    refine ⟨_, rfl, a, rfl, ⟨_, (KT.upd_new hf).sqt sa⟩, ?_⟩
    refine for_tup (xs := xs) (fun i σ' H' => ∃ (o : Option V) (acc : List V), σ' = [some (.ref a), some y, some (.ref f), o] ∧ Sm H H' ∧ H' f = some (.lst acc) ∧ RpAll K H' acc (((es.take i).filterMap (shpOf head)).map pairD)) ?_ ?_ ?_ ?_
    · exact ⟨none, [], rfl, Sm.new hf, upd_same, by simp; exact .nil⟩
    · rintro i σ' H' _ ⟨_, _, _, s1, _⟩
      exact (KT.same s1).sqt sa
    · rintro i v σ' H' hv ⟨o, acc, rfl, s1, ef, hacc⟩
      obtain ⟨en, e1, ren⟩ := ends_get (ra.on (KT.same s1)) hv
      obtain ⟨b, ws, rfl, sb⟩ := en_inv ren
      have wen := wfs_mem hw (List.mem_of_getElem? e1)
      refine ⟨_, rfl, b, _, _, _, rfl, rfl, sb, at0, rfl, _, rfl, ?_⟩
      rw [dec_s]
      by_cases c : en.tag = "shape"
      · rw [decide_eq_true c]
        refine iteT (B := _) ?_
        obtain ⟨m, n', sh, rfl⟩ := shp_of wen c
        obtain ⟨b', v3, e, sb', h3, hm⟩ := shp_inv ren
        cases e
        refine ⟨_, rfl, .inl ⟨rfl, _, SqL.of ef⟩, _, rfl, _, rfl, b, _, _, _, rfl, rfl, sb', at1, (show 1 ≤ sizeLine by decide), fun t ht => ?_⟩
        refine cat_head (K := K) (hy.on (KT.same s1)) hm (by omega) ht fun r H1 s2 hr1 => ?_
        have kt2 := KT.same s2
        refine ⟨_, rfl, (show 2 ≤ sizeLine by decide), fun u hu => ?_⟩
        have ef1 : H1 f = some (.lst acc) := s2 _ _ ef
        have ef2 : (upd H1 u (.tup [r, .ref b])) f = some (.lst acc) := (Sm.new hu) _ _ ef1
        have rp := pair_rp (q := (head ++ [m], En.shp m n' sh)) hr1 (ren.on kt2) hu
        have hacc2 := (hacc.on kt2).on (KT.upd_new (o := .tup [r, .ref b]) hu)
        have S2 : Sm H (upd H1 u (.tup [r, .ref b])) := (Sm.sm s1 s2).on hu
        generalize (upd H1 u (.tup [r, .ref b])) = H2 at ef2 rp hacc2 S2 ⊢
        have hal : acc.length ≤ 60 := by
          rw [hacc.length, List.length_map]
          have := fm_len (shpOf head) (es.take i)
          rw [List.length_take] at this
          omega
        refine ⟨f, acc, _, rfl, rfl, ef2, small_lt (by omega), ?_⟩
        have kt3 : KT H2 (upd H2 f (.lst (acc ++ [.ref u]))) := KT.upd_lst (NT.lst ef2)
        refine ⟨_, acc ++ [.ref u], rfl, S2.upd hf, upd_same, ?_⟩
        rw [fm_snoc e1, List.map_append]
        exact RpAll.app (hacc2.on kt3) (.cons (rp.on kt3) .nil)
      · rw [decide_eq_false c]
        refine iteF (A := _) ?_
        refine ⟨_, acc, rfl, s1, ef, ?_⟩
        rw [fm_snoc e1]
        have : shpOf head en = none := by
          cases en with
          | shp m n' sh => exact absurd rfl c
          | _ => rfl
        rw [this, List.append_nil]
        exact hacc
    · rintro σ' H' ⟨o, acc, rfl, s1, ef, hacc⟩
      have sa1 := (KT.same s1).sqt sa
      have ra1 := ra.on (KT.same s1)
      have hy1 := hy.on (KT.same s1)
      have hxl : xs.length = es.length := by rw [ra.length, ends_len]
      rw [hxl, List.take_length] at hacc
      refine ⟨_, rfl, a, rfl, ⟨_, sa1⟩, ?_⟩
      refine for_tup (xs := xs) (fun i σ'' H'' => ∃ (o : Option V) (g : Addr) (acc : List V), σ'' = [some (.ref a), some y, some (.ref g), o] ∧ Sm H' H'' ∧ H'' g = some (.lst acc) ∧ RpAll K H'' acc ((es.filterMap (shpOf head) ++ En.pathss head (es.take i)).map pairD)) ?_ ?_ ?_ ?_
      · exact ⟨_, f, acc, rfl, Sm.refl', ef, by simpa [En.pathss] using hacc⟩
      · rintro i σ'' H'' _ ⟨_, _, _, _, s2, _⟩
        exact (KT.same s2).sqt sa1
      · rintro i v σ'' H'' hv ⟨o, g, acc2, rfl, s2, eg, hacc2⟩
        obtain ⟨en, e1, ren⟩ := ends_get (ra1.on (KT.same s2)) hv
        obtain ⟨b, ws, rfl, sb⟩ := en_inv ren
        have men := List.mem_of_getElem? e1
        have wen := wfs_mem hw men
        refine ⟨_, rfl, b, _, _, _, rfl, rfl, sb, at0, rfl, _, rfl, ?_⟩
        rw [dec_s]
        by_cases c : en.tag = "module"
        · rw [decide_eq_true c]
          refine iteT (B := _) ?_
          obtain ⟨m, l, rfl⟩ := mod_of wen c
          obtain ⟨b', v3, e, sb', h3, hm⟩ := mod_inv ren
          cases e
          have dl : (En.mod m l).dep ≤ n := Nat.le_trans (endeps_mem men) hd
          simp only [En.dep] at dl
          have wl := wen
          simp only [En.wf, Bool.and_eq_true, decide_eq_true_eq] at wl
          refine ⟨_, rfl, _, rfl, b, _, _, _, rfl, rfl, sb', at2, _, rfl, _, rfl, b, _, _, _, rfl, rfl, sb', at1, (show 1 ≤ sizeLine by decide), fun t ht => ?_⟩
          refine cat_head (K := K) (hy1.on (KT.same s2)) hm (by omega) ht fun r H1 s3 hr1 => ?_
          refine ⟨n - 1, by omega, v3, r, l, head ++ [m], rfl, h3.on (KT.same s3), hr1, wl.2, by omega, by omega, by rw [List.length_append]; simp only [List.length_cons, List.length_nil]; omega, by omega, fun z zs H2 s4 ez hzs => ?_⟩
          have eg2 : H2 g = some (.lst acc2) := s4 _ _ (s3 _ _ eg)
          have hacc3 := (hacc2.on (KT.same s3)).on (KT.same s4)
          have e5 : (es.filterMap (shpOf head) ++ En.pathss head (es.take (i + 1))).map pairD = (es.filterMap (shpOf head) ++ En.pathss head (es.take i)).map pairD ++ (paths l (head ++ [m])).map pairD := by
            rw [pathss_snoc e1, paths_mod, ← List.append_assoc, List.map_append]
          have hle := pathss_le head es (i + 1)
          have hlen : acc2.length + zs.length = (es.filterMap (shpOf head) ++ En.pathss head (es.take (i + 1))).length := by
            rw [← List.length_map (f := pairD), e5, List.length_append, hacc3.length, hzs.length]
          refine ⟨g, z, acc2, zs, rfl, rfl, eg2, ez, small_le (by omega), fun q hq => ?_⟩
          have ktq := KT.upd_new (o := .lst (acc2 ++ zs)) hq
          refine ⟨_, q, acc2 ++ zs, rfl, (Sm.sm (Sm.sm s2 s3) s4).on hq, upd_same, ?_⟩
          rw [e5]
          exact RpAll.app (hacc3.on ktq) (hzs.on ktq)
        · rw [decide_eq_false c]
          refine iteF (A := _) ?_
          refine ⟨_, g, acc2, rfl, s2, eg, ?_⟩
          rw [pathss_snoc e1]
          have : En.paths head en = [] := by
            cases en with
            | mod m l => exact absurd rfl c
            | _ => simp [En.paths]
          rw [this, List.append_nil]
          exact hacc2
      · rintro σ'' H'' ⟨o, g, acc2, rfl, s2, eg, hacc2⟩
        rw [hxl, List.take_length] at hacc2
        exact ⟨_, rfl, k g acc2 _ (Sm.sm s1 s2) eg hacc2⟩
theorem ok_paths (T : Txt K mg A) : ∀ n : Nat, FnOk P w K mg base CX0 (n + 2) A.f_shape_paths A.d_shape_paths ["entries", "head"] (spPaths K n)
  | 0 => ok_pathsS T 0 (T.F_shape_paths.ok (k := 0) sc_shape_paths (fun _ _ _ _ ⟨_, h, _⟩ => by omega) (fun _ _ _ _ _ _ _ _ _ ⟨_, h, _⟩ => by omega))
  | n + 1 => ok_pathsS T (n + 1) ((ok_paths T n).imp fun _ _ _ _ ⟨n', h, q⟩ => by cases h; exact q)
end
end K87

set_option Elab.async false
set_option maxRecDepth 100000
set_option linter.all false
set_option maxHeartbeats 40000000
namespace K87
open PySem L2 GD AG RG
section
variable {P : Program} {w : World} {K : PySem.W.Frag} {mg : Str → Option Value} {base : Heap} {A : Adr}
/-- names that are in order, as a value -/
structure Nm (K : PySem.W.Frag) (H : Hp) (x : V) (N : List En) : Prop where
  ok : NamesOk N
  rp : Rp K H x (.tuple (En.ds N))
theorem Nm.on {H H' : Hp} {x : V} {N : List En} (h : Nm K H x N) (s : Sm H H') : Nm K H' x N := ⟨h.ok, h.rp.on (KT.same s)⟩
theorem row_get {H : Hp} {xs : List V} {l : List (List Str × En)} {i : Nat} {v : V} (h : RpAll K H xs (l.map pairD)) (e : xs[i]? = some v) : ∃ q, l[i]? = some q ∧ Rp K H v (pairD q) := by
  obtain ⟨d, ed, rd⟩ := h.getV e
  rw [List.getElem?_map] at ed
  cases e1 : l[i]? with
  | none => rw [e1] at ed; cases ed
  | some q =>
    rw [e1] at ed
    simp at ed
    subst ed
    exact ⟨q, rfl, rd⟩
theorem pair_inv {H : Hp} {v : V} {q : List Str × En} (h : Rp K H v (pairD q)) : ∃ a x y, v = .ref a ∧ SqT K H a [x, y] ∧ Rp K H x (pathD q.1) ∧ Rp K H y q.2.d := by
  obtain ⟨a, zs, rfl, sa, ra⟩ := h.tup_inv
  obtain ⟨v0, w1, rfl, h0, ra⟩ := ra.cons_inv
  obtain ⟨v1, w1, rfl, h1, ra⟩ := ra.cons_inv
  have e3 := ra.nil_inv
  subst e3
  exact ⟨a, v0, v1, rfl, sa, h0, h1⟩
theorem optI_eqv (o : Option Int) (s : Int) : PyData.eqv (optI o) (.int s) = decide (o = some s) := by
  cases o with
  | none => simp [optI, PyData.eqv]
  | some n =>
    simp only [optI, PyData.eqv]
    by_cases c : n = s <;> simp [c]
theorem shp_depth {m : Str} {n : Nat} {sh : Sh} (h : (En.shp m n sh).wf = true) : (En.shp m n sh).d.depth ≤ 60 := by
  simp only [En.wf, Bool.and_eq_true, decide_eq_true_eq] at h
  have := (fine_of h.2).depth
  simp only [En.d, PyData.depth, PyData.depthAll]
  simp only [Nat.zero_max, Nat.max_zero, Nat.max_le]
  omega
theorem stampPath_some {N : List En} {s : Int} {q : List Str × En} (h : (paths N []).find? (isStamp N s) = some q) : stampPath N s = some q.1 := by
  unfold stampPath
  rw [h]
  rfl
def spSPath (K : PySem.W.Frag) : Sp := fun vs H Q _ => ∃ (nm : V) (s : Int) (N : List En), vs = [nm, .int s] ∧ Nm K H nm N ∧ ∀ (v : V) (H' : Hp), Sm H H' → Rp K H' v (optP (stampPath N s)) → Q v H'
theorem ok_spath (T : Txt K mg A) : FnOk P w K mg base CX0 6 A.f_stamp_path A.d_stamp_path ["names", "stamp"] (spSPath K) := by
  have G_shape_paths : FnOk P w K mg base CX0 5 A.f_shape_paths A.d_shape_paths _ _ := ok_paths T 3
  have G_stamp_of : FnOk P w K mg base CX0 2 A.f_stamp_of A.d_stamp_of _ _ := ok_stampOf T
  have G_lookup : FnOk P w K mg base CX0 3 A.f_lookup A.d_lookup _ _ := ok_look T
  refine T.F_stamp_path.ok (k := 5) sc_stamp_path (fun vs H Q E h => ?_) (fun cdv Ar outer s H vs Q E hr h => ?_)
  · obtain ⟨nm, s, N, rfl, _⟩ := h
    rfl
  · obtain ⟨nm, s, N, rfl, hN, k⟩ := h
    refine ⟨_, (pss_cons (ps_for PassesOwn.never rfl (pi_list (pe_call G_shape_paths (hr.mono (by first | decide | omega)) rfl T.g_shape_paths T.F_shape_paths.kp T.b_shape_paths .nil pass0 (pa_cons (pv 0) (pa_cons (pe_tup pa_nil) pa_nil)))) (pg_tup rfl (pgs_cons (pg_name (i := 2) sc_stamp_path.nd rfl (Or.inl rfl)) (pgs_cons (pg_name (i := 3) sc_stamp_path.nd rfl (Or.inl rfl)) pgs_nil))) (pss_one (ps_if (PW.pt (pw_and (pt_cmpR (op_eqS hr.units) (pe_call G_stamp_of (hr.mono (by first | decide | omega)) rfl T.g_stamp_of T.F_stamp_of.kp T.b_stamp_of .nil pass0 (pa_cons (pv 3) pa_nil)) (pv 1) (nomark _)) (pw_and1 (pt_cmpR (op_eqS hr.units) (pe_call G_lookup (hr.mono (by first | decide | omega)) rfl T.g_lookup T.F_lookup.kp T.b_lookup .nil pass0 (pa_cons (pv 0) (pa_cons pe_str (pa_cons (pv 2) pa_nil)))) (pv 3) (nomark _))))) (pss_one (ps_ret (pv 2))) pss_nil))) (pss_one (ps_ret pe_non))), ?_⟩
    refine ⟨_, rfl, Nat.zero_le _, fun t ht => ?_⟩
    have rt : Rp K (upd H t (.tup [])) (.ref t) (pathD []) := Rp.mk upd_same .nil
    have S0 : Sm H (upd H t (.tup [])) := Sm.new ht
    refine ⟨nm, .ref t, N, [], rfl, hN.rp.on (KT.same S0), rt, hN.ok.wf, hN.ok.dep, hN.ok.len, by simp, by omega, fun a ys H1 s1 ea hys => ⟨a, rfl, ⟨_, SqL.of ea⟩, ?_⟩⟩
    have S1 : Sm H H1 := S0.sm s1
    have hyl : ys.length = (paths N []).length := by rw [hys.length, List.length_map]
    refine for_list (xs := ys) (fun i σ' H' => ∃ (o2 o3 : Option V), σ' = [some nm, some (.int s), o2, o3] ∧ Sm H1 H' ∧ ((paths N []).take i).find? (isStamp N s) = none) ?_ ?_ ?_ ?_
    · exact ⟨none, none, rfl, Sm.refl', by simp⟩
    · rintro i σ' H' _ ⟨_, _, _, s2, _⟩
      exact SqL.of (s2 _ _ ea)
    · rintro i v σ' H' hv ⟨o2, o3, rfl, s2, hf⟩
      obtain ⟨q, eq, rq⟩ := row_get hys hv
      obtain ⟨b, x, y, rfl, sb, hx, hy⟩ := pair_inv (rq.on (KT.same s2))
      have row := hN.ok.rows q (List.mem_of_getElem? eq)
      have NN : Nm K H' nm N := hN.on (S1.sm s2)
      refine ⟨b, _, rfl, sb, rfl, _, _, rfl, _, _, rfl, rfl, ?_⟩
      obtain ⟨m, n, sh, e2⟩ := row.shp
      have wq := row.wf
      obtain ⟨p, e⟩ := q
      dsimp only at e2 wq hx hy
      subst e2
      have hn : n ≤ 2 := by
        simp only [En.wf, Bool.and_eq_true, decide_eq_true_eq] at wq
        exact wq.1.2
      refine ⟨_, rfl, y, m, n, sh, rfl, hy, by omega, fun v1 H2 s3 hv1 => ⟨_, rfl, _, _, hv1, .int s, by simp [PyData.depth], _, rfl, ?_⟩⟩
      rw [optI_eqv]
      by_cases c : stampOf (.shp m n sh) = some s
      · rw [decide_eq_true c]
        refine iteT (B := _) ?_
        refine ⟨_, rfl, _, rfl, nm, x, N, "shape", p, rfl, NN.rp.on (KT.same s3), hN.ok.wf, hx.on (KT.same s3), row.path.ne, fun v2 H3 s4 hv2 => ⟨_, rfl, _, _, hv2, (hy.on (KT.same s3)).on (KT.same s4), shp_depth wq, _, rfl, ?_⟩⟩
        cases c2 : PyData.eqv (optD (lookE N "shape" p)) (En.shp m n sh).d with
        | true =>
          refine iteT (B := _) ?_
          have := find_hit hf eq (show isStamp N s (p, .shp m n sh) = true by unfold isStamp; simp only [c, c2, decide_true, Bool.and_self])
          refine ⟨_, rfl, k _ _ (S1.sm (s2.sm (s3.sm s4))) ?_⟩
          rw [stampPath_some this]
          exact (hx.on (KT.same s3)).on (KT.same s4)
        | false =>
          refine iteF (A := _) ?_
          exact ⟨_, _, rfl, s2.sm (s3.sm s4), find_miss hf eq (by unfold isStamp; simp only [c2, Bool.and_false])⟩
      · rw [decide_eq_false c]
        refine iteF (A := _) ?_
        exact iteF (A := _) ⟨_, _, rfl, s2.sm s3, find_miss hf eq (by unfold isStamp; simp only [c, decide_false, Bool.false_and])⟩
    · rintro σ' H' ⟨o2, o3, rfl, s2, hf⟩
      rw [hyl, List.take_length] at hf
      refine k _ _ (S1.sm s2) ?_
      have : stampPath N s = none := by
        unfold stampPath
        rw [hf]
        rfl
      rw [this]
      exact .non
def spSText (K : PySem.W.Frag) : Sp := fun vs H Q _ => ∃ (nm : V) (s : Int) (N : List En), vs = [nm, .int s] ∧ Nm K H nm N ∧ 0 ≤ s ∧ s < 200 ∧ ∀ (H' : Hp), Sm H H' → Q (.str (stampText N s)) H'
theorem path_strs {H : Hp} {p : List Str} : ∀ {xs : List V}, RpAll K H xs (p.map PyData.str) → xs = p.map V.str := by
  induction p with
  | nil => intro xs h; exact h.nil_inv
  | cons a r ih =>
    intro xs h
    obtain ⟨v, ws, rfl, h1, h2⟩ := h.cons_inv
    rw [h1.str_inv, ih h2]
    rfl
theorem ok_stext (T : Txt K mg A) : FnOk P w K mg base CX0 7 A.f_stamp_text A.d_stamp_text ["names", "stamp"] (spSText K) := by
  have G_stamp_path : FnOk P w K mg base CX0 6 A.f_stamp_path A.d_stamp_path _ _ := ok_spath T
  refine T.F_stamp_text.ok (k := 6) sc_stamp_text (fun vs H Q E h => ?_) (fun cdv Ar outer s H vs Q E hr h => ?_)
  · obtain ⟨nm, s, N, rfl, _⟩ := h
    rfl
  · obtain ⟨nm, s, N, rfl, hN, hs0, hs1, k⟩ := h
    refine ⟨_, (pss_cons (ps_set (i := 2) sc_stamp_text.nd rfl (Or.inl rfl) (pe_call G_stamp_path (hr.mono (by first | decide | omega)) rfl T.g_stamp_path T.F_stamp_path.kp T.b_stamp_path .nil pass0 (pa_cons (pv 0) (pa_cons (pv 1) pa_nil)))) (pss_cons (ps_if (pt_cmpR op_isN (pv 2) pe_non (nomark _)) (pss_one (ps_ret (pe_op op_add_str pe_str (pe_callTy call_str_int (by rfl) T.n_str (by decide +kernel) (pa_cons (pv 1) pa_nil))))) pss_nil) (pss_one (ps_ret (pe_join pe_str (pe_callTy call_list_of (by rfl) T.n_list (by decide +kernel) (pa_cons (pv 2) pa_nil))))))), ?_⟩
    refine ⟨_, rfl, _, rfl, nm, s, N, rfl, hN, fun v H1 s1 hv => ?_⟩
    unfold stampText at k
    cases e : stampPath N s with
    | none =>
      rw [e] at hv k
      have ev : v = .non := hv.non_inv
      subst ev
      refine ⟨_, rfl, rfl, _, rfl, iteY rfl ?_⟩
      have hl := stamp_str s.toNat (by omega)
      rw [show ((s.toNat : Nat) : Int) = s by omega] at hl
      refine ⟨_, rfl, s, rfl, ?_, _, _, rfl, rfl, ?_, k _ s1⟩
      · have : s.natAbs < 200 := by omega
        have h2 : s.natAbs.log2 ≤ s.natAbs := Nat.log2_le_self _
        omega
      · rw [lit "?" 1]; exact small_le (by omega)
    | some p =>
      rw [e] at hv k
      have hp := stampPath_ok hN.ok e
      obtain ⟨b, ys, rfl, sb, rb⟩ := hv.tup_inv
      have ey := path_strs rb
      subst ey
      refine ⟨_, rfl, rfl, _, rfl, iteN rfl ?_⟩
      refine ⟨⟨_, rfl⟩, _, rfl, b, _, rfl, .inr sb, fun l hl => ?_⟩
      refine ⟨_, l, p, rfl, rfl, .inl (SqL.of upd_same), ?_, k _ (s1.on hl)⟩
      have h3 := sum_le hp.each
      have := hp.len
      rw [lit "." 1]
      omega
end
end K87

set_option Elab.async false
set_option maxRecDepth 100000
set_option linter.all false
set_option maxHeartbeats 40000000
namespace K87
open PySem L2 GD AG RG
section
variable {P : Program} {w : World} {K : PySem.W.Frag} {mg : Str → Option Value} {base : Heap} {A : Adr}
def spGen (K : PySem.W.Frag) : Sp := fun vs H Q _ => ∃ n : Int, vs = [.int n] ∧ (n = 0 ∨ n = 1) ∧ Q (.str (nameV n)) H
theorem ok_gen (T : Txt K mg A) : FnOk P w K mg base CX0 1 A.f_general_name A.d_general_name ["number"] (spGen K) := by
  refine T.F_general_name.ok sc_general_name (fun vs H Q E h => ?_) (fun cdv Ar outer s H vs Q E hr h => ?_)
  · obtain ⟨n, rfl, _⟩ := h
    rfl
  · obtain ⟨n, rfl, hn, k⟩ := h
    refine ⟨_, (pss_cons (ps_set (i := 1) sc_general_name.nd rfl (Or.inl rfl) (pe_op op_fdivN (pv 0) (pe_callB call_len_str (by rfl) T.n_len PySem.boot_len (pa_cons (pe_glob (v := .str "abcdefghijklmnopqrstuvwxyz") rfl T.g_LETTERS ⟨_, rfl⟩) pa_nil)))) (pss_cons (ps_set (i := 2) sc_general_name.nd rfl (Or.inl rfl) (pe_ifExp (pt_cmpR op_gt (pv 1) pe_int (nomark _)) (pe_callTy call_str_int (by rfl) T.n_str (by decide +kernel) (pa_cons (pv 1) pa_nil)) pe_str)) (pss_one (ps_ret (pe_op op_add_str (pe_op op_add_str pe_str (pe_ix ix_str (pe_glob (v := .str "abcdefghijklmnopqrstuvwxyz") rfl T.g_LETTERS ⟨_, rfl⟩) (pe_op op_modN (pv 0) (pe_callB call_len_str (by rfl) T.n_len PySem.boot_len (pa_cons (pe_glob (v := .str "abcdefghijklmnopqrstuvwxyz") rfl T.g_LETTERS ⟨_, rfl⟩) pa_nil))) (fun _ _ => rfl))) (pv 2)))))), ?_⟩
    rcases hn with rfl | rfl
    · refine ⟨_, rfl, _, rfl, (by decide +kernel), _, _, rfl, rfl, ⟨by decide +kernel, by decide +kernel⟩, ?_⟩
      refine ⟨_, rfl, _, _, rfl, rfl, _, rfl, iteN (by decide +kernel) ?_⟩
      refine ⟨_, rfl, _, rfl, (by decide +kernel), _, _, rfl, rfl, (by decide +kernel), _, _, 97, rfl, rfl, (by decide +kernel), (by decide +kernel), _, _, rfl, rfl, (by decide +kernel), _, rfl, _, _, rfl, rfl, (by decide +kernel), ?_⟩
      exact (show (("'" : Str) ++ ⟨#[97]⟩ ++ "") = nameV 0 by decide +kernel) ▸ k
    · refine ⟨_, rfl, _, rfl, (by decide +kernel), _, _, rfl, rfl, ⟨by decide +kernel, by decide +kernel⟩, ?_⟩
      refine ⟨_, rfl, _, _, rfl, rfl, _, rfl, iteN (by decide +kernel) ?_⟩
      refine ⟨_, rfl, _, rfl, (by decide +kernel), _, _, rfl, rfl, (by decide +kernel), _, _, 98, rfl, rfl, (by decide +kernel), (by decide +kernel), _, _, rfl, rfl, (by decide +kernel), _, rfl, _, _, rfl, rfl, (by decide +kernel), ?_⟩
      exact (show (("'" : Str) ++ ⟨#[98]⟩ ++ "") = nameV 1 by decide +kernel) ▸ k
def spVar (K : PySem.W.Frag) : Sp := fun vs H Q _ => ∃ (n : Int) (fr : V), vs = [.int n, fr] ∧ (n = 0 ∨ n = 1) ∧ Q (.str (nameV n)) H
theorem ok_var (T : Txt K mg A) : FnOk P w K mg base CX0 2 A.f_variable_text A.d_variable_text ["number", "free"] (spVar K) := by
  have G_general_name : FnOk P w K mg base CX0 1 A.f_general_name A.d_general_name _ _ := ok_gen T
  refine T.F_variable_text.ok sc_variable_text (fun vs H Q E h => ?_) (fun cdv Ar outer s H vs Q E hr h => ?_)
  · obtain ⟨n, fr, rfl, _⟩ := h
    rfl
  · obtain ⟨n, fr, rfl, hn, k⟩ := h
    refine ⟨_, (pss_cons (ps_if (pt_cmpR op_lt (pv 0) (pe_glob (v := .int 1000000) rfl T.g_FREE ⟨_, rfl⟩) (nomark _)) (pss_one (ps_ret (pe_call G_general_name (hr.mono (by first | decide | omega)) rfl T.g_general_name T.F_general_name.kp T.b_general_name .nil pass0 (pa_cons (pv 0) pa_nil)))) pss_nil) (pss_one (ps_ret (pe_op op_add_str pe_str (pe_callTy call_str_int (by rfl) T.n_str (by decide +kernel) (pa_cons (pe_op op_add (pe_bm PySem.F.plainAttrs_list PySem.F.slot_list_index PySem.F.type_list_index mt_index (pv 1) (pa_cons (pv 0) pa_nil)) pe_int) pa_nil)))))), ?_⟩
    refine ⟨_, rfl, _, _, rfl, rfl, _, rfl, iteY (decide_eq_true (by rcases hn with rfl | rfl <;> decide)) ?_⟩
    exact ⟨_, rfl, n, rfl, hn, k⟩
def spEnc (K : PySem.W.Frag) : Sp := fun vs H Q _ => ∃ (t : Str) (x : V) (sh : Sh) (tg : Addr) (gs : List V) (b : Bool), vs = [.str t, x, .ref tg] ∧ Rp K H x sh.d ∧ SqT K H tg gs ∧ ((gs = [.str "f"] ∧ b = isF sh) ∨ (gs = [.str "f", .str "t"] ∧ b = isFT sh)) ∧ t.length ≤ 50000 ∧ Q (.str (enc b t)) H
theorem sh_at0 {H : Hp} {x : V} {sh : Sh} (h : Rp K H x sh.d) : ∃ a t ws, x = .ref a ∧ SqT K H a (.str t :: ws) ∧ inV (.str t) [.str "f"] = isF sh ∧ inV (.str t) [.str "f", .str "t"] = isFT sh := by
  cases sh with
  | v i => obtain ⟨a, rfl, hs⟩ := inv_v h; exact ⟨a, _, _, rfl, hs, by simp only [isF]; decide +kernel, by simp only [isFT]; decide +kernel⟩
  | c i l => obtain ⟨a, g, gs, rfl, hs, hg, hl⟩ := inv_c h; exact ⟨a, _, _, rfl, hs, by simp only [isF]; decide +kernel, by simp only [isFT]; decide +kernel⟩
  | t l => obtain ⟨a, _, _, rfl, hs, _⟩ := inv_t h; exact ⟨a, _, _, rfl, hs, by simp only [isF]; decide +kernel, by simp only [isFT]; decide +kernel⟩
  | f y z => obtain ⟨a, _, _, rfl, hs, _⟩ := inv_f h; exact ⟨a, _, _, rfl, hs, by simp only [isF]; decide +kernel, by simp only [isFT]; decide +kernel⟩
theorem ok_enc (T : Txt K mg A) : FnOk P w K mg base CX0 1 A.f_enclosed A.d_enclosed ["text", "shape", "tags"] (spEnc K) := by
  refine T.F_enclosed.ok sc_enclosed (fun vs H Q E h => ?_) (fun cdv Ar outer s H vs Q E hr h => ?_)
  · obtain ⟨t, x, sh, tg, gs, b, rfl, _⟩ := h
    rfl
  · obtain ⟨t, x, sh, tg, gs, b, rfl, hx, hg, hb, ht, k⟩ := h
    refine ⟨_, (pss_one (ps_ret (pe_ifExp (pt_cmpR op_in_seq (pe_ix (ixt (K := K) rfl) (pv 1) pe_int (fun _ _ => rfl)) (pv 2) (by rfl)) (pe_op op_add_str (pe_op op_add_str pe_str (pv 0)) pe_str) (pv 0)))), ?_⟩
    obtain ⟨a, tag, ws, rfl, sa, e1, e2⟩ := sh_at0 hx
    have hin : inV (.str tag) gs = b ∧ gs.all flatV = true := by
      rcases hb with ⟨rfl, rfl⟩ | ⟨rfl, rfl⟩
      · exact ⟨e1, rfl⟩
      · exact ⟨e2, rfl⟩
    refine ⟨_, rfl, a, _, _, _, rfl, rfl, sa, at0, _, rfl, tg, gs, rfl, .inr hg, rfl, hin.2, _, rfl, ?_⟩
    simp only [Bool.false_eq_true, if_false]
    rw [hin.1]
    unfold enc at k
    cases b with
    | true =>
      rw [if_pos rfl] at k
      refine iteT (B := _) ?_
      refine ⟨_, rfl, _, _, rfl, rfl, ?_, _, _, rfl, rfl, ?_, k⟩
      · rw [lit "(" 1]; exact small_le (by omega)
      · rw [slen, lit "(" 1, lit ")" 1]; exact small_le (by omega)
    | false =>
      rw [if_neg (by decide)] at k
      exact iteF (A := _) ⟨_, rfl, k⟩
structure TArg (K : PySem.W.Frag) (H : Hp) (nm x : V) (N : List En) (sh : Sh) : Prop where
  nm : Nm K H nm N
  rp : Rp K H x sh.d
  vp : sh.vp p01 = true
  st : sh.stin = true
  sz : sh.sz ≤ 100
theorem TArg.on {H H' : Hp} {nm x : V} {N : List En} {sh : Sh} (h : TArg K H nm x N sh) (s : Sm H H') : TArg K H' nm x N sh := ⟨h.nm.on s, h.rp.on (KT.same s), h.vp, h.st, h.sz⟩
def spText (K : PySem.W.Frag) (n : Nat) : Sp := fun vs H Q _ => ∃ (nm x fr : V) (N : List En) (sh : Sh), vs = [nm, x, fr] ∧ TArg K H nm x N sh ∧ sh.dep ≤ n ∧ ∀ (H' : Hp), Sm H H' → Q (.str (textOf N sh)) H'
theorem text_cap {N : List En} (h : NamesOk N) {sh : Sh} (st : sh.stin = true) (sz : sh.sz ≤ 100) : (textOf N sh).length ≤ 10000 := by
  have := text_len h sh st
  omega
theorem sub_arg {H : Hp} {nm x y : V} {N : List En} {sh a : Sh} (h : TArg K H nm x N sh) (m : a ∈ sh.parts) (hy : Rp K H y a.d) : TArg K H nm y N a := by
  refine ⟨h.nm, hy, vps_mem (vps_parts h.vp) m, ?_, ?_⟩
  · have := h.st
    cases sh with
    | v n => cases m
    | c n l => simp only [Sh.stin, Bool.and_eq_true] at this; exact stins_mem this.2 m
    | t l => simp only [Sh.stin] at this; exact stins_mem this m
    | f u v =>
      simp only [Sh.stin, Bool.and_eq_true] at this
      have m' : a = u ∨ a = v := by simpa [Sh.parts] using m
      rcases m' with rfl | rfl
      · exact this.1
      · exact this.2
  · have h1 := h.sz
    have h2 := szs_mem m
    cases hv : sh.isV with
    | true =>
      cases sh with
      | v n => cases m
      | _ => cases hv
    | false =>
      have := szs_parts hv
      omega
theorem strs_get {f : Sh → Str} {l : List Sh} {i : Nat} {a : Sh} (h : l[i]? = some a) : (l.map f).take (i + 1) = (l.map f).take i ++ [f a] := take_snoc (by rw [List.getElem?_map, h]; rfl)
theorem ok_textS (T : Txt K mg A) (n : Nat) (G : FnOk P w K mg base CX0 (n + 9) A.f_text_of A.d_text_of ["names", "shape", "free"] (Less (spText K) n)) : FnOk P w K mg base CX0 (n + 10) A.f_text_of A.d_text_of ["names", "shape", "free"] (spText K n) := by
  have G_text_of : FnOk P w K mg base CX0 (n + 9) A.f_text_of A.d_text_of _ _ := G
  have G_variable_text : FnOk P w K mg base CX0 2 A.f_variable_text A.d_variable_text _ _ := ok_var T
  have G_enclosed : FnOk P w K mg base CX0 1 A.f_enclosed A.d_enclosed _ _ := ok_enc T
  have G_stamp_text : FnOk P w K mg base CX0 7 A.f_stamp_text A.d_stamp_text _ _ := ok_stext T
  refine T.F_text_of.ok (k := n + 9) sc_text_of (fun vs H Q E h => ?_) (fun cdv Ar outer s H vs Q E hr h => ?_)
  · obtain ⟨nm, x, fr, N, sh, rfl, _⟩ := h
    rfl
  · obtain ⟨nm, x, fr, N, sh, rfl, hA, hd, k⟩ := h
    refine ⟨_, (pss_cons (ps_if (pt_cmpR op_eq (pe_ix (ixt (K := K) rfl) (pv 1) pe_int (fun _ _ => rfl)) pe_str (nomark _)) (pss_one (ps_ret (pe_call G_variable_text (hr.mono (by first | decide | omega)) rfl T.g_variable_text T.F_variable_text.kp T.b_variable_text .nil pass0 (pa_cons (pe_ix (ixt (K := K) rfl) (pv 1) pe_int (fun _ _ => rfl)) (pa_cons (pv 2) pa_nil))))) pss_nil) (pss_cons (ps_if (pt_cmpR op_eq (pe_ix (ixt (K := K) rfl) (pv 1) pe_int (fun _ _ => rfl)) pe_str (nomark _)) (pss_cons (ps_set (i := 3) sc_text_of.nd rfl (Or.inl rfl) (pe_call G_enclosed (hr.mono (by first | decide | omega)) rfl T.g_enclosed T.F_enclosed.kp T.b_enclosed .nil pass0 (pa_cons (pe_call G_text_of (hr.mono (by first | decide | omega)) rfl T.g_text_of T.F_text_of.kp T.b_text_of .nil pass0 (pa_cons (pv 0) (pa_cons (pe_ix (ixt (K := K) rfl) (pv 1) pe_int (fun _ _ => rfl)) (pa_cons (pv 2) pa_nil)))) (pa_cons (pe_ix (ixt (K := K) rfl) (pv 1) pe_int (fun _ _ => rfl)) (pa_cons (pe_tup (pa_cons pe_str pa_nil)) pa_nil))))) (pss_one (ps_ret (pe_op op_add_str (pe_op op_add_str (pv 3) pe_str) (pe_call G_text_of (hr.mono (by first | decide | omega)) rfl T.g_text_of T.F_text_of.kp T.b_text_of .nil pass0 (pa_cons (pv 0) (pa_cons (pe_ix (ixt (K := K) rfl) (pv 1) pe_int (fun _ _ => rfl)) (pa_cons (pv 2) pa_nil)))))))) pss_nil) (pss_cons (ps_if (pt_cmpR op_eq (pe_ix (ixt (K := K) rfl) (pv 1) pe_int (fun _ _ => rfl)) pe_str (nomark _)) (pss_one (ps_ret (pe_join pe_str (pe_lc (own := [("part", 5)]) (g := gName 5) (tt := tYes) rfl sc_text_of.nd (pi_tup (pe_ix (ixt (K := K) rfl) (pv 1) pe_int (fun _ _ => rfl))) (blkOk_by (N := N_text_of) (sc := defScope s_text_of) (by decide +kernel)) (fun _ _ _ _ _ => (pg_name (i := 5) sc_text_of.nd rfl (Or.inl rfl))) (fun _ _ _ _ _ => pts_nil) (fun _ _ _ _ _ => (pe_call G_enclosed (hr.mono (by first | decide | omega)) rfl T.g_enclosed T.F_enclosed.kp T.b_enclosed .nil pass0 (pa_cons (pe_call G_text_of (hr.mono (by first | decide | omega)) rfl T.g_text_of T.F_text_of.kp T.b_text_of .nil pass0 (pa_cons (pv 0) (pa_cons (pv 5) (pa_cons (pv 2) pa_nil)))) (pa_cons (pv 5) (pa_cons (pe_tup (pa_cons pe_str (pa_cons pe_str pa_nil))) pa_nil))))))))) pss_nil) (pss_cons (ps_set (i := 4) sc_text_of.nd rfl (Or.inl rfl) (pe_call G_stamp_text (hr.mono (by first | decide | omega)) rfl T.g_stamp_text T.F_stamp_text.kp T.b_stamp_text .nil pass0 (pa_cons (pv 0) (pa_cons (pe_ix (ixt (K := K) rfl) (pv 1) pe_int (fun _ _ => rfl)) pa_nil)))) (pss_cons (ps_if (pt_cmpR op_eq (pe_callB call_len_seq (by rfl) T.n_len PySem.boot_len (pa_cons (pe_ix (ixt (K := K) rfl) (pv 1) pe_int (fun _ _ => rfl)) pa_nil)) pe_int (nomark _)) (pss_one (ps_ret (pv 4))) pss_nil) (pss_cons (ps_if (pt_cmpR op_eq (pe_callB call_len_seq (by rfl) T.n_len PySem.boot_len (pa_cons (pe_ix (ixt (K := K) rfl) (pv 1) pe_int (fun _ _ => rfl)) pa_nil)) pe_int (nomark _)) (pss_one (ps_ret (pe_op op_add_str (pe_op op_add_str (pe_call G_enclosed (hr.mono (by first | decide | omega)) rfl T.g_enclosed T.F_enclosed.kp T.b_enclosed .nil pass0 (pa_cons (pe_call G_text_of (hr.mono (by first | decide | omega)) rfl T.g_text_of T.F_text_of.kp T.b_text_of .nil pass0 (pa_cons (pv 0) (pa_cons (pe_ix (ixt (K := K) rfl) (pe_ix (ixt (K := K) rfl) (pv 1) pe_int (fun _ _ => rfl)) pe_int (fun _ _ => rfl)) (pa_cons (pv 2) pa_nil)))) (pa_cons (pe_ix (ixt (K := K) rfl) (pe_ix (ixt (K := K) rfl) (pv 1) pe_int (fun _ _ => rfl)) pe_int (fun _ _ => rfl)) (pa_cons (pe_tup (pa_cons pe_str (pa_cons pe_str pa_nil))) pa_nil)))) pe_str) (pv 4)))) pss_nil) (pss_one (ps_ret (pe_op op_add_str (pe_op op_add_str (pe_op op_add_str pe_str (pe_join pe_str (pe_lc (own := [("part", 5)]) (g := gName 5) (tt := tYes) rfl sc_text_of.nd (pi_tup (pe_ix (ixt (K := K) rfl) (pv 1) pe_int (fun _ _ => rfl))) (blkOk_by (N := N_text_of) (sc := defScope s_text_of) (by decide +kernel)) (fun _ _ _ _ _ => (pg_name (i := 5) sc_text_of.nd rfl (Or.inl rfl))) (fun _ _ _ _ _ => pts_nil) (fun _ _ _ _ _ => (pe_call G_text_of (hr.mono (by first | decide | omega)) rfl T.g_text_of T.F_text_of.kp T.b_text_of .nil pass0 (pa_cons (pv 0) (pa_cons (pv 5) (pa_cons (pv 2) pa_nil)))))))) pe_str) (pv 4)))))))))), ?_⟩
    have hA0 := hA
    have hx := hA.rp
    have hps : ∀ a ∈ sh.parts, a.dep < sh.dep := fun a m => parts_dep m
    have cap : ∀ a ∈ sh.parts, (textOf N a).length ≤ 10000 := fun a m => by
      have q := fun y hy => sub_arg (y := y) hA0 m hy
      refine text_cap hA.nm.ok ?_ ?_
      · have := hA.st
        cases sh with
        | v n => cases m
        | c n l => simp only [Sh.stin, Bool.and_eq_true] at this; exact stins_mem this.2 m
        | t l => simp only [Sh.stin] at this; exact stins_mem this m
        | f u v =>
          simp only [Sh.stin, Bool.and_eq_true] at this
          have m' : a = u ∨ a = v := by simpa [Sh.parts] using m
          rcases m' with rfl | rfl
          · exact this.1
          · exact this.2
      · have h1 := hA.sz
        have h2 := szs_mem m
        cases hv : sh.isV with
        | true =>
          cases sh with
          | v n => cases m
          | _ => cases hv
        | false =>
          have := szs_parts hv
          omega
    have tcap := text_cap hA.nm.ok hA.st hA.sz
    cases sh with
    | v i =>
      obtain ⟨a, rfl, hs⟩ := inv_v hx
      have hi : i = 0 ∨ i = 1 := by have := hA.vp; simpa [Sh.vp, p01] using this
      refine ⟨_, rfl, a, _, _, _, rfl, rfl, hs, at0, rfl, _, rfl, iteY (by decide +kernel) ?_⟩
      refine ⟨_, rfl, a, _, _, _, rfl, rfl, hs, at1, _, rfl, i, fr, rfl, hi, ?_⟩
      have := k H Sm.refl'
      simp only [textOf] at this
      exact this
    | f u v =>
      obtain ⟨a, v1, v2, rfl, hs, h1, h2⟩ := inv_f hx
      refine ⟨_, rfl, a, _, _, _, rfl, rfl, hs, at0, rfl, _, rfl, iteN (by decide +kernel) ?_⟩
      refine ⟨_, rfl, a, _, _, _, rfl, rfl, hs, at0, rfl, _, rfl, iteY (by decide +kernel) ?_⟩
      have du : u.dep < (Sh.f u v).dep := hps _ (by simp [Sh.parts])
      have dv : v.dep < (Sh.f u v).dep := hps _ (by simp [Sh.parts])
      refine ⟨_, rfl, _, rfl, a, _, _, _, rfl, rfl, hs, at1, _, rfl, n - 1, by omega, nm, v1, fr, N, u, rfl, sub_arg hA0 (by simp [Sh.parts]) h1, by omega, fun H1 s1 => ?_⟩
      have kt1 := KT.same s1
      refine ⟨_, rfl, a, _, _, _, rfl, rfl, kt1.sqt hs, at1, (show 1 ≤ sizeLine by decide), fun t ht => ?_⟩
      have s2 : Sm H (upd H1 t (.tup [.str "f"])) := s1.on ht
      have cu := cap u (by simp [Sh.parts])
      have cv := cap v (by simp [Sh.parts])
      have el := enc_len (isF u) (textOf N u)
      refine ⟨_, v1, u, t, _, isF u, rfl, h1.on (KT.same s2), .inl (Rd.of upd_same), .inl ⟨rfl, rfl⟩, by omega, ?_⟩
      have kt2 := KT.same s2
      refine ⟨_, rfl, _, _, rfl, rfl, ?_, ?_⟩
      · rw [lit " -> " 4]; exact small_le (by omega)
      refine ⟨_, rfl, _, rfl, a, _, _, _, rfl, rfl, kt2.sqt hs, at2, _, rfl, n - 1, by omega, nm, v2, fr, N, v, rfl, (sub_arg hA0 (by simp [Sh.parts]) h2).on s2, by omega, fun H3 s3 => ?_⟩
      refine ⟨_, _, rfl, rfl, ?_, ?_⟩
      · rw [slen, lit " -> " 4]; exact small_le (by omega)
      have := k H3 (s2.sm s3)
      simp only [textOf] at this
      exact this
    | t l =>
      obtain ⟨a, g, gs, rfl, hs, hg, hl⟩ := inv_t hx
      refine ⟨_, rfl, a, _, _, _, rfl, rfl, hs, at0, rfl, _, rfl, iteN (by decide +kernel) ?_⟩
      refine ⟨_, rfl, a, _, _, _, rfl, rfl, hs, at0, rfl, _, rfl, iteN (by decide +kernel) ?_⟩
      refine ⟨_, rfl, a, _, _, _, rfl, rfl, hs, at0, rfl, _, rfl, iteY (by decide +kernel) ?_⟩
      refine ⟨⟨_, rfl⟩, _, rfl, a, _, _, _, rfl, rfl, hs, at1, g, rfl, ⟨_, hg⟩, fun D hD => ?_⟩
      have hgl : gs.length = l.length := by rw [hl.length, ds_len]
      have hll := szs_len l
      have hsz := hA.sz
      simp only [Sh.sz] at hsz
      refine lc_tup (xs := gs) (fun i H' => Sm H H' ∧ H' D = some (.lst (((textsE N l).take i).map V.str))) ?_ ?_ ?_ ?_
      · exact ⟨Sm.new hD, by simp [upd_same]⟩
      · rintro i H' _ ⟨s1, _⟩
        exact (KT.same s1).sqt hg
      · rintro i y H' hy ⟨s1, hacc⟩
        have hi : i < l.length := by rw [← hgl]; exact (List.getElem?_eq_some_iff.mp hy).1
        have ep : l[i]? = some l[i] := List.getElem?_eq_getElem hi
        have mp : l[i] ∈ (Sh.t l).parts := List.getElem_mem hi
        obtain ⟨d, ed, rd⟩ := hl.getV hy
        have ed2 : d = (l[i]).d := by
          rw [ds_map, List.getElem?_map, ep] at ed
          simpa using ed.symm
        subst ed2
        have := hps _ mp
        have cu := cap _ mp
        refine ⟨rfl, tYes_do ?_⟩
        refine ⟨_, rfl, _, rfl, _, rfl, n - 1, by omega, nm, y, fr, N, l[i], rfl, (sub_arg hA0 mp rd).on s1, by omega, fun H2 s2 => ?_⟩
        have s12 := Sm.sm s1 s2
        refine ⟨_, rfl, (show 2 ≤ sizeLine by decide), fun t ht => ?_⟩
        have s3 : Sm H (upd H2 t (.tup [.str "f", .str "t"])) := s12.on ht
        have eD : (upd H2 t (.tup [.str "f", .str "t"])) D = some (.lst (((textsE N l).take i).map V.str)) := (Sm.new ht) _ _ (s2 _ _ hacc)
        refine ⟨_, y, l[i], t, _, isFT l[i], rfl, rd.on (KT.same s3), .inl (Rd.of upd_same), .inr ⟨rfl, rfl⟩, by omega, ?_⟩
        refine ⟨_, eD, small_lt (by rw [List.length_map, List.length_take]; omega), s3.upd hD, ?_⟩
        rw [upd_same, textsE_map, strs_get ep, List.map_append]
        rfl
      · rintro H' ⟨s1, hacc⟩
        have e1 : (textsE N l).take gs.length = textsE N l := List.take_of_length_le (by rw [textsE_map, List.length_map]; omega)
        rw [e1] at hacc
        have hq := textsE_len hA.nm.ok l (by have := hA.st; simpa only [Sh.stin] using this)
        refine ⟨_, D, _, rfl, rfl, .inl (SqL.of hacc), ?_, ?_⟩
        · rw [lit " * " 3]; omega
        · have := k H' s1
          simp only [textOf] at this
          exact this
    | c i l =>
      obtain ⟨a, g, gs, rfl, hs, hg, hl⟩ := inv_c hx
      have hst := hA.st
      simp only [Sh.stin, Bool.and_eq_true, decide_eq_true_eq] at hst
      refine ⟨_, rfl, a, _, _, _, rfl, rfl, hs, at0, rfl, _, rfl, iteN (by decide +kernel) ?_⟩
      refine ⟨_, rfl, a, _, _, _, rfl, rfl, hs, at0, rfl, _, rfl, iteN (by decide +kernel) ?_⟩
      refine ⟨_, rfl, a, _, _, _, rfl, rfl, hs, at0, rfl, _, rfl, iteN (by decide +kernel) ?_⟩
      refine ⟨_, rfl, _, rfl, a, _, _, _, rfl, rfl, hs, at1, nm, i, N, rfl, hA.nm, hst.1.1, hst.1.2, fun H1 s1 => ?_⟩
      have sl := stampText_len hA.nm.ok hst.1.1 hst.1.2
      have hs1 := (KT.same s1).sqt hs
      have hg1 := (KT.same s1).sqt hg
      have hl1 := hl.on (KT.same s1)
      have hA1 := hA0.on s1
      have hgl : gs.length = l.length := by rw [hl.length, ds_len]
      refine ⟨_, rfl, a, _, _, _, rfl, rfl, hs1, at2, g, gs, rfl, .inr hg1, rfl, _, rfl, ?_⟩
      rw [dec_i]
      match l, hgl, hl1, hps, cap, hA1, k, tcap, hA.sz, hst.2 with
      | [], hgl, hl1, hps, cap, hA1, k, tcap, hsz, hst2 =>
        refine iteY (decide_eq_true (by rw [hgl]; rfl)) ?_
        refine ⟨_, rfl, ?_⟩
        have := k H1 s1
        simp only [textOf] at this
        exact this
      | [u], hgl, hl1, hps, cap, hA1, k, tcap, hsz, hst2 =>
        refine iteN (decide_eq_false (by rw [hgl]; simp)) ?_
        obtain ⟨v1, ws, rfl, h1, h2⟩ := hl1.cons_inv
        refine ⟨_, rfl, a, _, _, _, rfl, rfl, hs1, at2, g, _, rfl, .inr hg1, rfl, _, rfl, iteY (by rw [dec_i]; exact decide_eq_true (by rw [hgl]; rfl)) ?_⟩
        have mu : u ∈ (Sh.c i [u]).parts := by simp [Sh.parts]
        have du := hps _ mu
        have cu := cap u mu
        have el := enc_len (isFT u) (textOf N u)
        refine ⟨_, rfl, _, rfl, a, _, _, _, rfl, rfl, hs1, at2, g, _, _, _, rfl, rfl, hg1, at0, _, rfl, n - 1, by omega, nm, v1, fr, N, u, rfl, sub_arg hA1 mu h1, by omega, fun H2 s2 => ?_⟩
        have kt2 := KT.same s2
        refine ⟨_, rfl, a, _, _, _, rfl, rfl, kt2.sqt hs1, at2, g, _, _, _, rfl, rfl, kt2.sqt hg1, at0, (show 2 ≤ sizeLine by decide), fun t ht => ?_⟩
        have s3 : Sm H1 (upd H2 t (.tup [.str "f", .str "t"])) := s2.on ht
        refine ⟨_, v1, u, t, _, isFT u, rfl, h1.on (KT.same s3), .inl (Rd.of upd_same), .inr ⟨rfl, rfl⟩, by omega, ?_⟩
        refine ⟨_, _, rfl, rfl, ?_, _, rfl, _, _, rfl, rfl, ?_, ?_⟩
        · rw [lit " " 1]; exact small_le (by omega)
        · rw [slen, lit " " 1]; exact small_le (by omega)
        · have := k _ (s1.sm s3)
          simp only [textOf] at this
          exact this
      | u :: v :: r, hgl, hl1, hps, cap, hA1, k, tcap, hsz, hst2 =>
        refine iteN (decide_eq_false (by rw [hgl]; simp only [List.length_cons]; omega)) ?_
        refine ⟨_, rfl, a, _, _, _, rfl, rfl, hs1, at2, g, _, rfl, .inr hg1, rfl, _, rfl, iteN (by rw [dec_i]; exact decide_eq_false (by rw [hgl]; simp only [List.length_cons]; omega)) ?_⟩
        refine ⟨⟨_, rfl⟩, _, rfl, a, _, _, _, rfl, rfl, hs1, at2, g, rfl, ⟨_, hg1⟩, fun D hD => ?_⟩
        have hll := szs_len (u :: v :: r)
        simp only [Sh.sz] at hsz
        have htx : (texts N (u :: v :: r)) = (u :: v :: r).map (textOf N) := texts_map N _
        refine lc_tup (xs := gs) (fun j H' => Sm H1 H' ∧ H' D = some (.lst (((texts N (u :: v :: r)).take j).map V.str))) ?_ ?_ ?_ ?_
        · exact ⟨Sm.new hD, by simp [upd_same]⟩
        · rintro j H' _ ⟨s2, _⟩
          exact (KT.same s2).sqt hg1
        · rintro j y H' hy ⟨s2, hacc⟩
          have hj : j < (u :: v :: r).length := by rw [← hgl]; exact (List.getElem?_eq_some_iff.mp hy).1
          have ep : (u :: v :: r)[j]? = some (u :: v :: r)[j] := List.getElem?_eq_getElem hj
          have mp : (u :: v :: r)[j] ∈ (Sh.c i (u :: v :: r)).parts := List.getElem_mem hj
          obtain ⟨d, ed, rd⟩ := hl1.getV hy
          have ed2 : d = ((u :: v :: r)[j]).d := by
            rw [ds_map, List.getElem?_map, ep] at ed
            simpa using ed.symm
          subst ed2
          have := hps _ mp
          refine ⟨rfl, tYes_do ?_⟩
          refine ⟨_, rfl, _, rfl, _, rfl, n - 1, by omega, nm, y, fr, N, (u :: v :: r)[j], rfl, (sub_arg hA1 mp rd).on s2, by omega, fun H2 s3 => ?_⟩
          have eD : H2 D = some (.lst (((texts N (u :: v :: r)).take j).map V.str)) := s3 _ _ hacc
          refine ⟨_, eD, small_lt (by rw [List.length_map, List.length_take]; omega), (s2.sm s3).upd hD, ?_⟩
          rw [upd_same, htx, strs_get ep, List.map_append]
          rfl
        · rintro H' ⟨s2, hacc⟩
          have e1 : (texts N (u :: v :: r)).take gs.length = texts N (u :: v :: r) := List.take_of_length_le (by rw [htx, List.length_map]; omega)
          rw [e1] at hacc
          have hq := texts_len hA.nm.ok (u :: v :: r) hst2
          have hj := join_len ", " (texts N (u :: v :: r))
          rw [lit ", " 2] at hj
          refine ⟨_, D, _, rfl, rfl, .inl (SqL.of hacc), ?_, ?_⟩
          · rw [lit ", " 2]; omega
          refine ⟨_, _, rfl, rfl, ?_, _, _, rfl, rfl, ?_, _, rfl, _, _, rfl, rfl, ?_, ?_⟩
          · rw [lit "(" 1]; exact small_le (by omega)
          · rw [slen, lit "(" 1, lit ") " 2]; exact small_le (by omega)
          · rw [slen, slen, lit "(" 1, lit ") " 2]; exact small_le (by omega)
          · have := k H' (s1.sm s2)
            simp only [textOf] at this
            simp only [texts]
            exact this
theorem ok_text (T : Txt K mg A) : ∀ n : Nat, FnOk P w K mg base CX0 (n + 10) A.f_text_of A.d_text_of ["names", "shape", "free"] (spText K n)
  | 0 => ok_textS T 0 (FnOk.mono (T.F_text_of.ok (k := 0) sc_text_of (fun _ _ _ _ ⟨_, h, _⟩ => by omega) (fun _ _ _ _ _ _ _ _ _ ⟨_, h, _⟩ => by omega)) (by omega))
  | n + 1 => ok_textS T (n + 1) ((ok_text T n).imp fun _ _ _ _ ⟨n', h, q⟩ => by cases h; exact q)
end
end K87

set_option Elab.async false
set_option maxRecDepth 100000
set_option linter.all false
set_option maxHeartbeats 40000000
namespace K87
open PySem L2 GD AG RG
section
variable {P : Program} {w : World} {K : PySem.W.Frag} {mg : Str → Option Value} {base : Heap} {A : Adr}
def spShape (K : PySem.W.Frag) : Sp := fun vs H Q _ => ∃ (nm x : V) (N : List En) (sh : Sh), vs = [nm, x] ∧ Nm K H nm N ∧ Rp K H x sh.d ∧ Fine sh ∧ ∀ (H' : Hp), Sm H H' → Q (.str (textOf N sh)) H'
theorem ok_shape (T : Txt K mg A) : FnOk P w K mg base CX0 41 A.f_shape_text A.d_shape_text ["names", "shape"] (spShape K) := by
  have G_variables : FnOk P w K mg base CX0 2 A.f_variables A.d_variables _ _ := ok_vars T
  have G_text_of : FnOk P w K mg base CX0 40 A.f_text_of A.d_text_of _ _ := ok_text T 30
  refine T.F_shape_text.ok (k := 40) sc_shape_text (fun vs H Q E h => ?_) (fun cdv Ar outer s H vs Q E hr h => ?_)
  · obtain ⟨nm, x, N, sh, rfl, _⟩ := h
    rfl
  · obtain ⟨nm, x, N, sh, rfl, hN, hx, hf, k⟩ := h
    refine ⟨_, (pss_cons (ps_setLc (i := 2) (own := [("number", 3)]) (g := gName 3) rfl sc_shape_text.nd rfl rfl (sw_true rfl rfl rfl (by decide +kernel)) (pi_tup (pe_call G_variables (hr.mono (by first | decide | omega)) rfl T.g_variables T.F_variables.kp T.b_variables .nil pass0 (pa_cons (pv 1) pa_nil))) (blkOk_by (N := N_shape_text) (sc := defScope s_shape_text) (by decide +kernel)) (fun _ _ _ _ _ => (pg_name (i := 3) sc_shape_text.nd rfl (Or.inl rfl))) (fun _ _ _ _ _ => (pts_one (pt_cmpR op_ge (pv 3) (pe_glob (v := .int 1000000) rfl T.g_FREE ⟨_, rfl⟩) (nomark _)))) (fun _ _ _ _ _ => (pv 3))) (pss_one (ps_ret (pe_call G_text_of (hr.mono (by first | decide | omega)) rfl T.g_text_of T.F_text_of.kp T.b_text_of .nil pass0 (pa_cons (pv 0) (pa_cons (pv 1) (pa_cons (pv 2) pa_nil))))))), ?_⟩
    have := hf.sz
    have := hf.dep
    refine ⟨_, rfl, x, sh, p01, rfl, hx, hf.vp, by omega, fun a ns H1 s1 hns nd pn => ⟨a, rfl, ⟨_, hns⟩, fun D hD => ?_⟩⟩
    refine lc_tup (xs := ns.map V.int) (fun i H' => Sm H1 H' ∧ H' D = some (.lst [])) ⟨Sm.new hD, upd_same⟩ ?_ ?_ ?_
    · rintro i H' _ ⟨s2, _⟩
      exact (KT.same s2).sqt hns
    · rintro i y H' hy ⟨s2, hacc⟩
      rw [List.getElem?_map] at hy
      cases e1 : ns[i]? with
      | none => rw [e1] at hy; cases hy
      | some n =>
        rw [e1] at hy
        simp at hy
        subst hy
        have hn := pn n (List.mem_of_getElem? e1)
        have hn2 : n = 0 ∨ n = 1 := by simpa [p01] using hn
        refine ⟨rfl, ?_⟩
        refine ⟨_, rfl, _, _, rfl, rfl, _, rfl, ?_⟩
        rw [decide_eq_false (show ¬ ((1000000 : Int) ≤ n) by omega)]
        exact iteF (A := _) ⟨s2, hacc⟩
    · rintro H' ⟨s2, hacc⟩
      refine ⟨_, rfl, _, rfl, _, rfl, nm, x, .ref D, N, sh, rfl, ?_, by omega, fun H2 s3 => k H2 (s1.sm (s2.sm s3))⟩
      have s12 := s1.sm s2
      exact ⟨hN.on s12, hx.on (KT.same s12), hf.vp, hf.st, by omega⟩
def spParT (K : PySem.W.Frag) : Sp := fun vs H Q _ => ∃ (n : Nat), vs = [.int (n : Int)] ∧ n ≤ 2 ∧ ∀ (H' : Hp), Sm H H' → Q (.str (parT n)) H'
theorem ok_parT (T : Txt K mg A) : FnOk P w K mg base CX0 2 A.f_parameter_text A.d_parameter_text ["k"] (spParT K) := by
  have G_general_name : FnOk P w K mg base CX0 1 A.f_general_name A.d_general_name _ _ := ok_gen T
  refine T.F_parameter_text.ok sc_parameter_text (fun vs H Q E h => ?_) (fun cdv Ar outer s H vs Q E hr h => ?_)
  · obtain ⟨n, rfl, _⟩ := h
    rfl
  · obtain ⟨n, rfl, hn, k⟩ := h
    refine ⟨_, (pss_cons (ps_if (pt_cmpR op_eq (pv 0) pe_int (nomark _)) (pss_one (ps_ret pe_str)) pss_nil) (pss_cons (ps_if (pt_cmpR op_eq (pv 0) pe_int (nomark _)) (pss_one (ps_ret pe_str)) pss_nil) (pss_one (ps_ret (pe_op op_add_str (pe_op op_add_str pe_str (pe_join pe_str (pe_lc (own := [("n", 1)]) (g := gName 1) (tt := tYes) rfl sc_parameter_text.nd (pi_range1 rfl T.n_range (pa_cons (pv 0) pa_nil)) (blkOk_by (N := N_parameter_text) (sc := defScope s_parameter_text) (by decide +kernel)) (fun _ _ _ _ _ => (pg_name (i := 1) sc_parameter_text.nd rfl (Or.inl rfl))) (fun _ _ _ _ _ => pts_nil) (fun _ _ _ _ _ => (pe_call G_general_name (hr.mono (by first | decide | omega)) rfl T.g_general_name T.F_general_name.kp T.b_general_name .nil pass0 (pa_cons (pv 1) pa_nil)))))) pe_str))))), ?_⟩
    match n, hn, k with
    | 0, _, k => exact ⟨_, rfl, rfl, _, rfl, iteY (by decide) (k H Sm.refl')⟩
    | 1, _, k =>
      refine ⟨_, rfl, rfl, _, rfl, iteN (by decide) ?_⟩
      exact ⟨_, rfl, rfl, _, rfl, iteY (by decide) (k H Sm.refl')⟩
    | 2, _, k =>
      refine ⟨_, rfl, rfl, _, rfl, iteN (by decide) ?_⟩
      refine ⟨_, rfl, rfl, _, rfl, iteN (by decide) ?_⟩
      refine ⟨⟨_, rfl⟩, _, rfl, 2, rfl, by decide, by decide, fun D hD => ?_⟩
      refine lc_range (lo := 0) (n := (2 : Int).toNat) (fun i H' => Sm H H' ∧ H' D = some (.lst (([nameV 0, nameV 1].take i).map V.str))) ?_ ?_ ?_
      · exact ⟨Sm.new hD, by simp [upd_same]⟩
      · rintro i H' hi ⟨s1, hacc⟩
        have hi2 : i < 2 := hi
        refine ⟨rfl, tYes_do ?_⟩
        refine ⟨_, rfl, 0 + (i : Int), rfl, by omega, ?_⟩
        refine ⟨_, hacc, small_lt (by rw [List.length_map, List.length_take]; simp only [List.length_cons, List.length_nil]; omega), s1.upd hD, ?_⟩
        rw [upd_same]
        match i, hi2 with
        | 0, _ => rfl
        | 1, _ => rfl
      · rintro H' ⟨s1, hacc⟩
        refine ⟨_, D, [nameV 0, nameV 1], rfl, rfl, .inl (SqL.of hacc), by decide +kernel, ?_⟩
        refine ⟨_, _, rfl, rfl, by decide +kernel, _, _, rfl, rfl, by decide +kernel, ?_⟩
        exact (show ("(" ++ Txt.join ", " [nameV 0, nameV 1] ++ ") " : Str) = parT 2 by decide +kernel) ▸ k H' s1
theorem pathD_depth (p : List Str) : (pathD p).depth ≤ 60 := by
  have h : ∀ l : List Str, PyData.depthAll (l.map PyData.str) = 0 := by
    intro l
    induction l with
    | nil => rfl
    | cons a r ih => simp only [List.map_cons, PyData.depthAll, PyData.depth, ih]; rfl
  unfold pathD
  simp only [PyData.depth, h]
  omega
def lineShp (N : List En) (head : List Str) (m : Str) (k : Nat) (s : Sh) : Str := if isNm N (.shp m k s) (head ++ [m]) then "shape " ++ (parT k ++ m) else "alias " ++ (parT k ++ m) ++ " = " ++ textOf N s
theorem entLines_shp (N : List En) (n : Nat) (head : List Str) (m : Str) (k : Nat) (s : Sh) : entLines N n head (.shp m k s) = [lineShp N head m k s] := by
  unfold lineShp
  cases n <;> (simp only [entLines]; split <;> rfl)
structure EArg (K : PySem.W.Frag) (H : Hp) (nm hd : V) (N : List En) (head : List Str) : Prop where
  nm : Nm K H nm N
  hd : Rp K H hd (pathD head)
theorem EArg.on {H H' : Hp} {nm hd : V} {N : List En} {head : List Str} (h : EArg K H nm hd N head) (s : Sm H H') : EArg K H' nm hd N head := ⟨h.nm.on s, h.hd.on (KT.same s)⟩
def spSLine (K : PySem.W.Frag) : Sp := fun vs H Q _ => ∃ (nm x hd : V) (N : List En) (head : List Str) (m : Str) (n : Nat) (sh : Sh), vs = [nm, x, hd] ∧ EArg K H nm hd N head ∧ head.length ≤ 10 ∧ Rp K H x (En.shp m n sh).d ∧ (En.shp m n sh).wf = true ∧ ∀ (H' : Hp), Sm H H' → Q (.str (lineShp N head m n sh)) H'
theorem ok_sline (T : Txt K mg A) : FnOk P w K mg base CX0 42 A.f_shape_line A.d_shape_line ["names", "entry", "head"] (spSLine K) := by
  have G_stamp_of : FnOk P w K mg base CX0 2 A.f_stamp_of A.d_stamp_of _ _ := ok_stampOf T
  have G_stamp_path : FnOk P w K mg base CX0 6 A.f_stamp_path A.d_stamp_path _ _ := ok_spath T
  have G_parameter_text : FnOk P w K mg base CX0 2 A.f_parameter_text A.d_parameter_text _ _ := ok_parT T
  have G_shape_text : FnOk P w K mg base CX0 41 A.f_shape_text A.d_shape_text _ _ := ok_shape T
  refine T.F_shape_line.ok (k := 41) sc_shape_line (fun vs H Q E h => ?_) (fun cdv Ar outer s H vs Q E hr h => ?_)
  · obtain ⟨nm, x, hd, N, head, m, n, sh, rfl, _⟩ := h
    rfl
  · obtain ⟨nm, x, hd, N, head, m, n, sh, rfl, hA, hh, hx, hw, k⟩ := h
    refine ⟨_, (pss_cons (ps_set (i := 3) sc_shape_line.nd rfl (Or.inl rfl) (pe_call G_stamp_of (hr.mono (by first | decide | omega)) rfl T.g_stamp_of T.F_stamp_of.kp T.b_stamp_of .nil pass0 (pa_cons (pv 1) pa_nil))) (pss_cons (ps_set (i := 4) sc_shape_line.nd rfl (Or.inl rfl) (pe_op op_add_str (pe_call G_parameter_text (hr.mono (by first | decide | omega)) rfl T.g_parameter_text T.F_parameter_text.kp T.b_parameter_text .nil pass0 (pa_cons (pe_ix (ixt (K := K) rfl) (pv 1) pe_int (fun _ _ => rfl)) pa_nil)) (pe_ix (ixt (K := K) rfl) (pv 1) pe_int (fun _ _ => rfl)))) (pss_cons (ps_if (PW.pt (pw_and (pt_cmpR op_notN (pv 3) pe_non (nomark _)) (pw_and1 (pt_cmpR (op_eqS hr.units) (pe_call G_stamp_path (hr.mono (by first | decide | omega)) rfl T.g_stamp_path T.F_stamp_path.kp T.b_stamp_path .nil pass0 (pa_cons (pv 0) (pa_cons (pv 3) pa_nil))) (pe_op op_catA (pv 2) (pe_tup (pa_cons (pe_ix (ixt (K := K) rfl) (pv 1) pe_int (fun _ _ => rfl)) pa_nil))) (nomark _))))) (pss_one (ps_ret (pe_op op_add_str pe_str (pv 4)))) pss_nil) (pss_one (ps_ret (pe_op op_add_str (pe_op op_add_str (pe_op op_add_str pe_str (pv 4)) pe_str) (pe_call G_shape_text (hr.mono (by first | decide | omega)) rfl T.g_shape_text T.F_shape_text.kp T.b_shape_text .nil pass0 (pa_cons (pv 0) (pa_cons (pe_ix (ixt (K := K) rfl) (pv 1) pe_int (fun _ _ => rfl)) pa_nil))))))))), ?_⟩
    obtain ⟨a, v3, rfl, sa, h3, hm⟩ := shp_inv hx
    have nl := name_len hw
    simp only [En.name] at nl
    have hw2 := hw
    simp only [En.wf, Bool.and_eq_true, decide_eq_true_eq] at hw2
    have hf := fine_of hw2.2
    have pl := parT_len n
    have tl := text_cap hA.nm.ok hf.st (by have := hf.sz; omega)
    refine ⟨_, rfl, .ref a, m, n, sh, rfl, hx, by omega, fun v H1 s1 hv => ?_⟩
    have sa1 := (KT.same s1).sqt sa
    refine ⟨_, rfl, a, _, _, _, rfl, rfl, sa1, at2, n, rfl, hw2.1.2, fun H2 s2 => ?_⟩
    have sa2 := (KT.same s2).sqt sa1
    have s12 := s1.sm s2
    refine ⟨_, rfl, a, _, _, _, rfl, rfl, sa2, at1, _, _, rfl, rfl, small_le (by omega), ?_⟩
    cases e1 : stampOf (.shp m n sh) with
    | none =>
      rw [e1] at hv
      have ev : v = .non := hv.non_inv
      subst ev
      refine ⟨_, rfl, rfl, _, rfl, ?_⟩
      refine iteN rfl ?_
      refine iteF (A := _) ?_
      have zn : ¬ isNm N (.shp m n sh) (head ++ [m]) = true := by unfold isNm; rw [e1]; exact Bool.false_ne_true
      refine ⟨_, rfl, _, _, rfl, rfl, ?_, _, _, rfl, rfl, ?_, _, rfl, _, rfl, a, _, _, _, rfl, rfl, sa2, at3, nm, v3, N, sh, rfl, hA.nm.on s12, h3.on (KT.same s12), hf, fun H9 s9 => ⟨_, _, rfl, rfl, ?_, ?_⟩⟩
      · rw [slen, lit "alias " 6]; exact small_le (by omega)
      · rw [slen, slen, lit "alias " 6, lit " = " 3]; exact small_le (by omega)
      · rw [slen, slen, slen, lit "alias " 6, lit " = " 3]; exact small_le (by omega)
      · have := k H9 (Sm.sm s12 s9)
        unfold lineShp at this
        rw [if_neg zn] at this
        exact this
    | some st =>
      rw [e1] at hv
      have ev : v = .int st := hv.int_inv
      subst ev
      refine ⟨_, rfl, rfl, _, rfl, ?_⟩
      refine iteY rfl ?_
      refine ⟨_, rfl, _, rfl, nm, st, N, rfl, hA.nm.on s12, fun u H3 s3 hu => ?_⟩
      have s13 := s12.sm s3
      have sa3 := (KT.same s3).sqt sa2
      refine ⟨_, rfl, _, rfl, a, _, _, _, rfl, rfl, sa3, at1, (show 1 ≤ sizeLine by decide), fun t ht => ?_⟩
      refine cat_head (K := K) (hA.hd.on (KT.same s13)) (hm.on (KT.same s13)) (by omega) ht fun r H4 s4 hr1 => ?_
      have s14 := s13.sm s4
      have sa4 := (KT.same s4).sqt sa3
      refine ⟨_, _, hu.on (KT.same s4), hr1, pathD_depth _, _, rfl, ?_⟩
      have en : isNm N (.shp m n sh) (head ++ [m]) = PyData.eqv (optP (stampPath N st)) (pathD (head ++ [m])) := by
        unfold isNm
        rw [e1]
        dsimp only
        cases stampPath N st with
        | none => simp [optP, pathD, PyData.eqv]
        | some p => rfl
      rw [← en]
      cases c : isNm N (.shp m n sh) (head ++ [m]) with
      | true =>
        refine iteT (B := _) ?_
        refine ⟨_, rfl, _, _, rfl, rfl, ?_, ?_⟩
        · rw [slen, lit "shape " 6]; exact small_le (by omega)
        · have := k H4 s14
          unfold lineShp at this
          rw [if_pos c] at this
          exact this
      | false =>
        refine iteF (A := _) ?_
        have zn : ¬ isNm N (.shp m n sh) (head ++ [m]) = true := by rw [c]; decide
        refine ⟨_, rfl, _, _, rfl, rfl, ?_, _, _, rfl, rfl, ?_, _, rfl, _, rfl, a, _, _, _, rfl, rfl, sa4, at3, nm, v3, N, sh, rfl, hA.nm.on s14, h3.on (KT.same s14), hf, fun H9 s9 => ⟨_, _, rfl, rfl, ?_, ?_⟩⟩
        · rw [slen, lit "alias " 6]; exact small_le (by omega)
        · rw [slen, slen, lit "alias " 6, lit " = " 3]; exact small_le (by omega)
        · rw [slen, slen, slen, lit "alias " 6, lit " = " 3]; exact small_le (by omega)
        · have := k H9 (Sm.sm s14 s9)
          unfold lineShp at this
          rw [if_neg zn] at this
          exact this
end
end K87

set_option Elab.async false
set_option maxRecDepth 100000
set_option linter.all false
set_option maxHeartbeats 40000000
namespace K87
open PySem L2 GD AG RG
section
variable {P : Program} {w : World} {K : PySem.W.Frag} {mg : Str → Option Value} {base : Heap} {A : Adr}
def spEntry (K : PySem.W.Frag) (n : Nat) : Sp := fun vs H Q _ => ∃ (nm x hd : V) (N : List En) (head : List Str) (e : En), vs = [nm, x, hd] ∧ EArg K H nm hd N head ∧ head.length + n ≤ 10 ∧ n ≤ 3 ∧ Rp K H x e.d ∧ e.wf = true ∧ e.dep ≤ n ∧
  ∀ (a : Addr) (H' : Hp), Sm H H' → H' a = some (.lst ((entLines N n head e).map V.str)) → Q (.ref a) H'
def spLevel (K : PySem.W.Frag) (n : Nat) : Sp := fun vs H Q _ => ∃ (nm x hd : V) (N : List En) (head : List Str) (es : List En), vs = [nm, x, hd] ∧ EArg K H nm hd N head ∧ head.length + n ≤ 10 ∧ n ≤ 3 ∧ Rp K H x (.tuple (En.ds es)) ∧ En.wfs es = true ∧ En.deps es ≤ n ∧ es.length ≤ 8 ∧
  ∀ (a : Addr) (H' : Hp), Sm H H' → H' a = some (.lst ((lvLines N n head es).map V.str)) → Q (.ref a) H'
theorem list1 {H : Hp} {L : Str} {Q : VK} (S : ∀ (l : Addr), H l = none → Q (.ref l) (upd H l (.lst [.str L]))) : ∀ l, H l = none → Q (.ref l) (upd H l (.lst ([L].map V.str))) := S
theorem val_inv {H : Hp} {x : V} {m : Str} {k : Int} {s : Sh} (h : Rp K H x (En.val m k s).d) : ∃ a b v, x = .ref a ∧ SqT K H a [.str "val", .str m, .ref b] ∧ SqT K H b [.int k, v] ∧ Rp K H v s.d := by
  simp only [En.d] at h
  obtain ⟨a, zs, rfl, sa, ra⟩ := h.tup_inv
  obtain ⟨v0, w1, rfl, h0, ra⟩ := ra.cons_inv
  obtain ⟨v1, w1, rfl, h1, ra⟩ := ra.cons_inv
  obtain ⟨v2, w1, rfl, h2, ra⟩ := ra.cons_inv
  have e0 := h0.str_inv
  have e1 := h1.str_inv
  have e3 := ra.nil_inv
  subst e0 e1 e3
  obtain ⟨b, zs, rfl, sb, rb⟩ := h2.tup_inv
  obtain ⟨v0, w1, rfl, h0, rb⟩ := rb.cons_inv
  obtain ⟨v1, w1, rfl, h1, rb⟩ := rb.cons_inv
  have e0 := h0.int_inv
  have e3 := rb.nil_inv
  subst e0 e3
  exact ⟨a, b, v1, rfl, sa, sb, h1⟩
theorem exn_inv {H : Hp} {x : V} {m : Str} {arg : Option Sh} (h : Rp K H x (En.exn m arg).d) : ∃ a v, x = .ref a ∧ SqT K H a [.str "exn", .str m, v] ∧ Rp K H v (argD arg) := by
  simp only [En.d] at h
  obtain ⟨a, zs, rfl, sa, ra⟩ := h.tup_inv
  obtain ⟨v0, w1, rfl, h0, ra⟩ := ra.cons_inv
  obtain ⟨v1, w1, rfl, h1, ra⟩ := ra.cons_inv
  obtain ⟨v2, w1, rfl, h2, ra⟩ := ra.cons_inv
  have e0 := h0.str_inv
  have e1 := h1.str_inv
  have e3 := ra.nil_inv
  subst e0 e1 e3
  exact ⟨a, v2, rfl, sa, h2⟩
theorem arg_cases {H : Hp} {v : V} {arg : Option Sh} (h : Rp K H v (argD arg)) : (arg = none ∧ v = .non) ∨ ∃ s b, arg = some s ∧ v = .ref b ∧ Rp K H (.ref b) s.d := by
  cases arg with
  | none => exact .inl ⟨rfl, h.non_inv⟩
  | some s =>
    obtain ⟨b, rfl⟩ := Sh.ref s h
    exact .inr ⟨s, b, rfl, rfl, h⟩
theorem str_ne' {a b : Str} (h : a ≠ b) : decide (V.str a = V.str b) = false := by rw [dec_s]; exact decide_eq_false h
theorem ok_entryS (T : Txt K mg A) (n : Nat) (G : FnOk P w K mg base CX0 (2 * n + 43) A.f_level_lines A.d_level_lines ["names", "entries", "head"] (Less (spLevel K) n)) : FnOk P w K mg base CX0 (2 * n + 44) A.f_entry_lines A.d_entry_lines ["names", "entry", "head"] (spEntry K n) := by
  have G_level_lines : FnOk P w K mg base CX0 (2 * n + 43) A.f_level_lines A.d_level_lines _ _ := G
  have G_shape_text : FnOk P w K mg base CX0 41 A.f_shape_text A.d_shape_text _ _ := ok_shape T
  have G_shape_line : FnOk P w K mg base CX0 42 A.f_shape_line A.d_shape_line _ _ := ok_sline T
  have G_constructor_scheme : FnOk P w K mg base CX0 35 A.f_constructor_scheme A.d_constructor_scheme _ _ := ok_scheme T
  refine T.F_entry_lines.ok (k := 2 * n + 43) sc_entry_lines (fun vs H Q E h => ?_) (fun cdv Ar outer s H vs Q E hr h => ?_)
  · obtain ⟨nm, x, hd, N, head, e, rfl, _⟩ := h
    rfl
  · obtain ⟨nm, x, hd, N, head, e, rfl, hA, hh, hn3, hx, hw, hdp, k⟩ := h
    refine ⟨_, (pss_cons (ps_set (i := 3) sc_entry_lines.nd rfl (Or.inl rfl) (pe_ix (ixt (K := K) rfl) (pv 1) pe_int (fun _ _ => rfl))) (pss_cons (ps_if (pt_cmpR op_eq (pv 3) pe_str (nomark _)) (pss_one (ps_ret (pe_lst (pa_cons (pe_op op_add_str (pe_op op_add_str (pe_op op_add_str pe_str (pe_ix (ixt (K := K) rfl) (pv 1) pe_int (fun _ _ => rfl))) pe_str) (pe_call G_shape_text (hr.mono (by first | decide | omega)) rfl T.g_shape_text T.F_shape_text.kp T.b_shape_text .nil pass0 (pa_cons (pv 0) (pa_cons (pe_ix (ixt (K := K) rfl) (pe_ix (ixt (K := K) rfl) (pv 1) pe_int (fun _ _ => rfl)) pe_int (fun _ _ => rfl)) pa_nil)))) pa_nil)))) pss_nil) (pss_cons (ps_if (pt_cmpR op_eq (pv 3) pe_str (nomark _)) (pss_one (ps_ret (pe_lst (pa_cons (pe_op op_add_str (pe_op op_add_str (pe_op op_add_str pe_str (pe_ix (ixt (K := K) rfl) (pv 1) pe_int (fun _ _ => rfl))) pe_str) (pe_call G_shape_text (hr.mono (by first | decide | omega)) rfl T.g_shape_text T.F_shape_text.kp T.b_shape_text .nil pass0 (pa_cons (pv 0) (pa_cons (pe_ix (ixt (K := K) rfl) (pe_call G_constructor_scheme (hr.mono (by first | decide | omega)) rfl T.g_constructor_scheme T.F_constructor_scheme.kp T.b_constructor_scheme .nil pass0 (pa_cons (pv 1) pa_nil)) pe_int (fun _ _ => rfl)) pa_nil)))) pa_nil)))) pss_nil) (pss_cons (ps_if (pt_cmpR op_eq (pv 3) pe_str (nomark _)) (pss_cons (ps_set (i := 4) sc_entry_lines.nd rfl (Or.inl rfl) (pe_ifExp (pt_cmpR op_isN (pe_ix (ixt (K := K) rfl) (pv 1) pe_int (fun _ _ => rfl)) pe_non (nomark _)) pe_str (pe_op op_add_str pe_str (pe_call G_shape_text (hr.mono (by first | decide | omega)) rfl T.g_shape_text T.F_shape_text.kp T.b_shape_text .nil pass0 (pa_cons (pv 0) (pa_cons (pe_ix (ixt (K := K) rfl) (pv 1) pe_int (fun _ _ => rfl)) pa_nil)))))) (pss_one (ps_ret (pe_lst (pa_cons (pe_op op_add_str (pe_op op_add_str pe_str (pe_ix (ixt (K := K) rfl) (pv 1) pe_int (fun _ _ => rfl))) (pv 4)) pa_nil))))) pss_nil) (pss_cons (ps_if (pt_cmpR op_eq (pv 3) pe_str (nomark _)) (pss_one (ps_ret (pe_lst (pa_cons (pe_call G_shape_line (hr.mono (by first | decide | omega)) rfl T.g_shape_line T.F_shape_line.kp T.b_shape_line .nil pass0 (pa_cons (pv 0) (pa_cons (pv 1) (pa_cons (pv 2) pa_nil)))) pa_nil)))) pss_nil) (pss_cons (ps_if (pt_cmpR op_eq (pv 3) pe_str (nomark _)) (pss_cons (ps_set (i := 5) sc_entry_lines.nd rfl (Or.inl rfl) (pe_call G_level_lines (hr.mono (by first | decide | omega)) rfl T.g_level_lines T.F_level_lines.kp T.b_level_lines .nil pass0 (pa_cons (pv 0) (pa_cons (pe_ix (ixt (K := K) rfl) (pv 1) pe_int (fun _ _ => rfl)) (pa_cons (pe_op op_catA (pv 2) (pe_tup (pa_cons (pe_ix (ixt (K := K) rfl) (pv 1) pe_int (fun _ _ => rfl)) pa_nil))) pa_nil))))) (pss_one (ps_ret (pe_op op_cat (pe_op op_cat (pe_lst (pa_cons (pe_op op_add_str (pe_op op_add_str pe_str (pe_ix (ixt (K := K) rfl) (pv 1) pe_int (fun _ _ => rfl))) pe_str) pa_nil)) (pe_lc (own := [("line", 6)]) (g := gName 6) (tt := tYes) rfl sc_entry_lines.nd (pi_list (pv 5)) (blkOk_by (N := N_entry_lines) (sc := defScope s_entry_lines) (by decide +kernel)) (fun _ _ _ _ _ => (pg_name (i := 6) sc_entry_lines.nd rfl (Or.inl rfl))) (fun _ _ _ _ _ => pts_nil) (fun _ _ _ _ _ => (pe_op op_add_str pe_str (pv 6))))) (pe_lst (pa_cons pe_str pa_nil)))))) pss_nil) (pss_one (ps_ret (pe_lst (pa_cons (pe_op op_add_str (pe_op op_add_str (pv 3) pe_str) (pe_ix (ixt (K := K) rfl) (pv 1) pe_int (fun _ _ => rfl))) pa_nil)))))))))), ?_⟩
    have nl := name_len hw
    have hE := ent_ok hA.nm.ok n head e hw
    cases e with
    | val m c sh =>
      obtain ⟨a, b, v, rfl, sa, sb, hv⟩ := val_inv hx
      simp only [En.name] at nl
      have hw2 := hw
      simp only [En.wf, Bool.and_eq_true, decide_eq_true_eq] at hw2
      have hf := fine_of hw2.2
      have tl := text_cap hA.nm.ok hf.st (by have := hf.sz; omega)
      refine ⟨_, rfl, a, _, _, _, rfl, rfl, sa, at0, ?_⟩
      refine ⟨_, rfl, rfl, _, rfl, iteY (by decide +kernel) ?_⟩
      refine ⟨_, rfl, a, _, _, _, rfl, rfl, sa, at1, _, _, rfl, rfl, ?_, _, _, rfl, rfl, ?_, _, rfl, _, rfl, a, _, _, _, rfl, rfl, sa, at2, b, _, _, _, rfl, rfl, sb, at1, nm, v, N, sh, rfl, hA.nm, hv, hf, fun H1 s1 => ⟨_, _, rfl, rfl, ?_, (show 1 ≤ sizeLine by decide), fun l hl => ?_⟩⟩
      · rw [lit "val " 4]; exact small_le (by omega)
      · rw [slen, lit "val " 4, lit " : " 3]; exact small_le (by omega)
      · rw [slen, slen, lit "val " 4, lit " : " 3]; exact small_le (by omega)
      · refine k l _ (s1.on hl) ?_
        rw [upd_same]
        cases n <;> simp only [entLines] <;> rfl
    | con m ar arg res i fam =>
      simp only [En.name] at nl
      have hw2 := hw
      simp only [En.wf, Bool.and_eq_true, decide_eq_true_eq] at hw2
      have hf := fine_of hw2.1.2
      have tl := text_cap hA.nm.ok hf.st (by have := hf.sz; omega)
      obtain ⟨a, ws, rfl, sa⟩ := en_inv hx
      simp only [En.tag, En.name] at sa
      refine ⟨_, rfl, a, _, _, _, rfl, rfl, sa, at0, ?_⟩
      refine ⟨_, rfl, rfl, _, rfl, iteN (by decide +kernel) ?_⟩
      refine ⟨_, rfl, rfl, _, rfl, iteY (by decide +kernel) ?_⟩
      refine ⟨_, rfl, a, _, _, _, rfl, rfl, sa, at1, _, _, rfl, rfl, ?_, _, _, rfl, rfl, ?_, _, rfl, _, rfl, .ref a, m, ar, arg, res, i, fam, rfl, hx, hw2.2, (by have := hf.sz; omega), (by have := hf.dep; omega), fun b z r H1 s1 sb hr1 => ⟨b, _, _, _, rfl, rfl, sb, at1, nm, r, N, _, rfl, hA.nm.on s1, hr1, hf, fun H2 s2 => ⟨_, _, rfl, rfl, ?_, (show 1 ≤ sizeLine by decide), fun l hl => ?_⟩⟩⟩
      · rw [lit "con " 4]; exact small_le (by omega)
      · rw [slen, lit "con " 4, lit " : " 3]; exact small_le (by omega)
      · rw [slen, slen, lit "con " 4, lit " : " 3]; exact small_le (by omega)
      · refine k l _ ((s1.sm s2).on hl) ?_
        rw [upd_same]
        cases n <;> simp only [entLines] <;> rfl
    | exn m arg =>
      obtain ⟨a, v, rfl, sa, hv⟩ := exn_inv hx
      simp only [En.name] at nl
      refine ⟨_, rfl, a, _, _, _, rfl, rfl, sa, at0, ?_⟩
      refine ⟨_, rfl, rfl, _, rfl, iteN (by decide +kernel) ?_⟩
      refine ⟨_, rfl, rfl, _, rfl, iteN (by decide +kernel) ?_⟩
      refine ⟨_, rfl, rfl, _, rfl, iteY (by decide +kernel) ?_⟩
      rcases arg_cases hv with ⟨rfl, rfl⟩ | ⟨sh, b, rfl, rfl, hb⟩
      · refine ⟨_, rfl, a, _, _, _, rfl, rfl, sa, at2, rfl, _, rfl, iteY rfl ?_⟩
        refine ⟨_, rfl, a, _, _, _, rfl, rfl, sa, at1, _, _, rfl, rfl, ?_, _, rfl, _, _, rfl, rfl, ?_, (show 1 ≤ sizeLine by decide), fun l hl => ?_⟩
        · rw [lit "exception " 10]; exact small_le (by omega)
        · rw [slen, lit "exception " 10, lit "" 0]; exact small_le (by omega)
        · refine k l _ (Sm.new hl) ?_
          rw [upd_same]
          cases n <;> simp only [entLines] <;> rfl
      · have hw2 := hw
        simp only [En.wf, Bool.and_eq_true, decide_eq_true_eq] at hw2
        have hf := fine_of hw2.2
        have tl := text_cap hA.nm.ok hf.st (by have := hf.sz; omega)
        refine ⟨_, rfl, a, _, _, _, rfl, rfl, sa, at2, rfl, _, rfl, iteN rfl ?_⟩
        refine ⟨_, rfl, _, rfl, a, _, _, _, rfl, rfl, sa, at2, nm, .ref b, N, sh, rfl, hA.nm, hb, hf, fun H1 s1 => ⟨_, _, rfl, rfl, ?_, ?_⟩⟩
        · rw [lit " of " 4]; exact small_le (by omega)
        refine ⟨_, rfl, a, _, _, _, rfl, rfl, (KT.same s1).sqt sa, at1, _, _, rfl, rfl, ?_, _, rfl, _, _, rfl, rfl, ?_, (show 1 ≤ sizeLine by decide), fun l hl => ?_⟩
        · rw [lit "exception " 10]; exact small_le (by omega)
        · rw [slen, slen, lit "exception " 10, lit " of " 4]; exact small_le (by omega)
        · refine k l _ (s1.on hl) ?_
          rw [upd_same]
          cases n <;> simp only [entLines] <;> rfl
    | shp m c sh =>
      obtain ⟨a, v3, rfl, sa, h3, hm⟩ := shp_inv hx
      refine ⟨_, rfl, a, _, _, _, rfl, rfl, sa, at0, ?_⟩
      refine ⟨_, rfl, rfl, _, rfl, iteN (by decide +kernel) ?_⟩
      refine ⟨_, rfl, rfl, _, rfl, iteN (by decide +kernel) ?_⟩
      refine ⟨_, rfl, rfl, _, rfl, iteN (by decide +kernel) ?_⟩
      refine ⟨_, rfl, rfl, _, rfl, iteY (by decide +kernel) ?_⟩
      refine ⟨_, rfl, _, rfl, _, rfl, nm, .ref a, hd, N, head, m, c, sh, rfl, hA, by omega, hx, hw, fun H1 s1 => ⟨(show 1 ≤ sizeLine by decide), fun l hl => ?_⟩⟩
      refine k l _ (s1.on hl) ?_
      rw [upd_same, entLines_shp]
      rfl
    | mod m es =>
      obtain ⟨a, v3, rfl, sa, h3, hm⟩ := mod_inv hx
      simp only [En.name] at nl
      have hw2 := hw
      simp only [En.wf, Bool.and_eq_true, decide_eq_true_eq] at hw2
      simp only [En.dep] at hdp
      obtain ⟨n, rfl⟩ : ∃ n', n = n' + 1 := ⟨n - 1, by omega⟩
      have hL := lv_ok hA.nm.ok n (head ++ [m]) (l := kept es) (fun e me => wfs_mem hw2.2 (keptTo_mem me)) (Nat.le_trans (keptTo_len es _) hw2.1.2)
      have h10 : 10 ^ n ≤ 10 ^ 3 := Nat.pow_le_pow_right (by decide) (by omega)
      refine ⟨_, rfl, a, _, _, _, rfl, rfl, sa, at0, ?_⟩
      refine ⟨_, rfl, rfl, _, rfl, iteN (by decide +kernel) ?_⟩
      refine ⟨_, rfl, rfl, _, rfl, iteN (by decide +kernel) ?_⟩
      refine ⟨_, rfl, rfl, _, rfl, iteN (by decide +kernel) ?_⟩
      refine ⟨_, rfl, rfl, _, rfl, iteN (by decide +kernel) ?_⟩
      refine ⟨_, rfl, rfl, _, rfl, iteY (by decide +kernel) ?_⟩
      refine ⟨_, rfl, _, rfl, a, _, _, _, rfl, rfl, sa, at2, _, rfl, _, rfl, a, _, _, _, rfl, rfl, sa, at1, (show 1 ≤ sizeLine by decide), fun t ht => ?_⟩
      refine cat_head (K := K) hA.hd hm (by omega) ht fun r H1 s1 hr1 => ?_
      refine ⟨n, rfl, nm, v3, r, N, head ++ [m], es, rfl, ⟨hA.nm.on s1, hr1⟩, by rw [List.length_append]; simp only [List.length_cons, List.length_nil]; omega, by omega, h3.on (KT.same s1), hw2.2, by omega, hw2.1.2, fun q H2 s2 eq => ?_⟩
      have s12 := Sm.sm s1 s2
      refine ⟨_, rfl, a, _, _, _, rfl, rfl, (KT.same s12).sqt sa, at1, _, _, rfl, rfl, ?_, _, _, rfl, rfl, ?_, (show 1 ≤ sizeLine by decide), fun l1 hl1 => ?_⟩
      · rw [lit "module " 7]; exact small_le (by omega)
      · rw [slen, lit "module " 7, lit " = sig" 6]; exact small_le (by omega)
      have s3 : Sm H (upd H2 l1 (.lst [.str ("module " ++ m ++ " = sig")])) := s12.on hl1
      have eq3 : (upd H2 l1 (.lst [.str ("module " ++ m ++ " = sig")])) q = some (.lst ((lvLines N n (head ++ [m]) es).map V.str)) := (Sm.new hl1) _ _ eq
      have el3 : (upd H2 l1 (.lst [.str ("module " ++ m ++ " = sig")])) l1 = some (.lst [.str ("module " ++ m ++ " = sig")]) := upd_same
      generalize (upd H2 l1 (.lst [.str ("module " ++ m ++ " = sig")])) = H3 at s3 eq3 el3 ⊢
      have hLl : (lvLines N n (head ++ [m]) es).length ≤ 8000 := by
        have := hL.1
        show (lvTo N n (head ++ [m]) (kept es)).length ≤ 8000
        omega
      refine ⟨_, rfl, q, rfl, ⟨_, SqL.of eq3⟩, fun D hD => ?_⟩
      refine lc_list (xs := (lvLines N n (head ++ [m]) es).map V.str) (fun i H' => Sm H3 H' ∧ H' D = some (.lst ((((lvLines N n (head ++ [m]) es).map fun l => ("  " : Str) ++ l).take i).map V.str))) ?_ ?_ ?_ ?_
      · exact ⟨Sm.new hD, by simp [upd_same]⟩
      · rintro i H' _ ⟨s4, _⟩
        exact SqL.of (s4 _ _ eq3)
      · rintro i y H' hy ⟨s4, hacc⟩
        rw [List.getElem?_map] at hy
        cases e1 : (lvLines N n (head ++ [m]) es)[i]? with
        | none => rw [e1] at hy; cases hy
        | some z =>
          rw [e1] at hy
          simp at hy
          subst hy
          have hz := hL.2 z (List.mem_of_getElem? e1)
          refine ⟨rfl, tYes_do ?_⟩
          refine ⟨_, rfl, _, _, rfl, rfl, ?_, ?_⟩
          · rw [lit "  " 2]; exact small_le (by omega)
          refine ⟨_, hacc, small_lt (by rw [List.length_map, List.length_take, List.length_map]; omega), s4.upd hD, ?_⟩
          rw [upd_same, take_snoc (L := (lvLines N n (head ++ [m]) es).map fun l => ("  " : Str) ++ l) (e := ("  " : Str) ++ z) (by rw [List.getElem?_map, e1]; rfl), List.map_append]
          rfl
      · rintro H' ⟨s4, hacc⟩
        rw [List.take_of_length_le (by rw [List.length_map, List.length_map]; omega)] at hacc
        refine ⟨l1, D, _, _, rfl, rfl, s4 _ _ el3, hacc, ?_, fun p hp => ?_⟩
        · rw [List.length_map, List.length_map]; exact small_le (by simp only [List.length_cons, List.length_nil]; omega)
        refine ⟨(show 1 ≤ sizeLine by decide), fun u hu => ?_⟩
        refine ⟨p, u, _, _, rfl, rfl, (Sm.new hu) _ _ upd_same, upd_same, ?_, fun z hz => ?_⟩
        · rw [List.length_append, List.length_map, List.length_map]; exact small_le (by simp only [List.length_cons, List.length_nil]; omega)
        refine k z _ (((Sm.sm s3 s4).on hp).on hu |>.on hz) ?_
        rw [upd_same, entLines_mod, List.map_append, List.map_append]
        rfl
    | oth g m r =>
      obtain ⟨a, ws, rfl, sa⟩ := en_inv hx
      simp only [En.tag, En.name] at sa nl
      obtain ⟨n1, n2, n3, n4, n5, n6⟩ := oth_wf hw
      have gl : g.length ≤ 10 := by
        simp only [En.wf, Bool.and_eq_true, decide_eq_true_eq] at hw
        exact hw.1.2
      refine ⟨_, rfl, a, _, _, _, rfl, rfl, sa, at0, ?_⟩
      refine ⟨_, rfl, rfl, _, rfl, iteN (str_ne' n1) ?_⟩
      refine ⟨_, rfl, rfl, _, rfl, iteN (str_ne' n2) ?_⟩
      refine ⟨_, rfl, rfl, _, rfl, iteN (str_ne' n3) ?_⟩
      refine ⟨_, rfl, rfl, _, rfl, iteN (str_ne' n4) ?_⟩
      refine ⟨_, rfl, rfl, _, rfl, iteN (str_ne' n5) ?_⟩
      refine ⟨_, rfl, _, _, rfl, rfl, ?_, _, rfl, a, _, _, _, rfl, rfl, sa, at1, _, _, rfl, rfl, ?_, (show 1 ≤ sizeLine by decide), fun l hl => ?_⟩
      · rw [lit " " 1]; exact small_le (by omega)
      · rw [slen, lit " " 1]; exact small_le (by omega)
      · refine k l _ (Sm.new hl) ?_
        rw [upd_same]
        cases n <;> simp only [entLines] <;> rfl
end
end K87

set_option Elab.async false
set_option maxRecDepth 100000
set_option linter.all false
set_option maxHeartbeats 40000000
namespace K87
open PySem L2 GD AG RG
section
variable {P : Program} {w : World} {K : PySem.W.Frag} {mg : Str → Option Value} {base : Heap} {A : Adr}
theorem at_k {xs : List V} {i : Nat} {v : V} (h : xs[i]? = some v) : atI xs (0 + (i : Int)) = some v := by
  rw [Int.zero_add]
  exact atI_nat h
theorem ends_at {H : Hp} {xs : List V} {es : List En} {i : Nat} {e : En} (h : RpAll K H xs (En.ds es)) (q : es[i]? = some e) : ∃ v, xs[i]? = some v ∧ Rp K H v e.d :=
  h.get (by rw [ends_map, List.getElem?_map, q]; rfl)
theorem ok_levelS (T : Txt K mg A) (n : Nat) (G : FnOk P w K mg base CX0 (2 * n + 44) A.f_entry_lines A.d_entry_lines ["names", "entry", "head"] (spEntry K n)) : FnOk P w K mg base CX0 (2 * n + 45) A.f_level_lines A.d_level_lines ["names", "entries", "head"] (spLevel K n) := by
  have G_entry_lines : FnOk P w K mg base CX0 (2 * n + 44) A.f_entry_lines A.d_entry_lines _ _ := G
  have G_space_of_entry : FnOk P w K mg base CX0 1 A.f_space_of_entry A.d_space_of_entry _ _ := ok_space2 T
  refine T.F_level_lines.ok (k := 2 * n + 44) sc_level_lines (fun vs H Q E h => ?_) (fun cdv Ar outer s H vs Q E hr h => ?_)
  · obtain ⟨nm, x, hd, N, head, es, rfl, _⟩ := h
    rfl
  · obtain ⟨nm, x, hd, N, head, es, rfl, hA, hh, hn3, hx, hw, hdp, hlen, k⟩ := h
    refine ⟨_, (pss_cons (ps_set (i := 3) sc_level_lines.nd rfl (Or.inl rfl) (pe_lst pa_nil)) (pss_cons (ps_for PassesOwn.never rfl (pi_range1 rfl T.n_range (pa_cons (pe_callB call_len_seq (by rfl) T.n_len PySem.boot_len (pa_cons (pv 1) pa_nil)) pa_nil)) (pg_name (i := 4) sc_level_lines.nd rfl (Or.inl rfl)) (pss_cons (ps_set (i := 5) sc_level_lines.nd rfl (Or.inl rfl) pe_bl) (pss_cons (ps_for PassesOwn.never rfl (pi_tup (pe_slice sl_tupA (pv 1) (po_some (pe_op op_add (pv 4) pe_int)) po_none)) (pg_name (i := 6) sc_level_lines.nd rfl (Or.inl rfl)) (pss_one (ps_if (PW.pt (pw_and (pt_cmpR op_eq (pe_call G_space_of_entry (hr.mono (by first | decide | omega)) rfl T.g_space_of_entry T.F_space_of_entry.kp T.b_space_of_entry .nil pass0 (pa_cons (pv 6) pa_nil)) (pe_call G_space_of_entry (hr.mono (by first | decide | omega)) rfl T.g_space_of_entry T.F_space_of_entry.kp T.b_space_of_entry .nil pass0 (pa_cons (pe_ix (ixt (K := K) rfl) (pv 1) (pv 4) (fun _ _ => rfl)) pa_nil)) (nomark _)) (pw_and1 (pt_cmpR op_eq (pe_ix (ixt (K := K) rfl) (pv 6) pe_int (fun _ _ => rfl)) (pe_ix (ixt (K := K) rfl) (pe_ix (ixt (K := K) rfl) (pv 1) (pv 4) (fun _ _ => rfl)) pe_int (fun _ _ => rfl)) (nomark _))))) (pss_one (ps_set (i := 5) sc_level_lines.nd rfl (Or.inl rfl) pe_bl)) pss_nil))) (pss_one (ps_if (PW.pt (pw_and (pt_not (pt_val (pv 5) (by intro _; rfl))) (pw_and1 (pt_cmpR op_ne (pe_ix (ixt (K := K) rfl) (pe_ix (ixt (K := K) rfl) (pv 1) (pv 4) (fun _ _ => rfl)) pe_int (fun _ _ => rfl)) pe_str (nomark _))))) (pss_one (ps_set (i := 3) sc_level_lines.nd rfl (Or.inl rfl) (pe_op op_cat (pv 3) (pe_call G_entry_lines (hr.mono (by first | decide | omega)) rfl T.g_entry_lines T.F_entry_lines.kp T.b_entry_lines .nil pass0 (pa_cons (pv 0) (pa_cons (pe_ix (ixt (K := K) rfl) (pv 1) (pv 4) (fun _ _ => rfl)) (pa_cons (pv 2) pa_nil))))))) pss_nil))))) (pss_one (ps_ret (pv 3))))), ?_⟩
    obtain ⟨a, xs, rfl, sa, ra⟩ := hx.tup_inv
    have hxl : xs.length = es.length := by rw [ra.length, ends_len]
    have h10 : 10 ^ n ≤ 10 ^ 3 := Nat.pow_le_pow_right (by decide) (by omega)
    refine ⟨Nat.zero_le _, fun f hf => ?_⟩
    have S0 : Sm H (upd H f (.lst [])) := Sm.new hf
    refine ⟨_, rfl, a, xs, rfl, .inr ((KT.same S0).sqt sa), (xs.length : Int), rfl, by omega, by omega, ?_⟩
    refine for_range (lo := 0) (n := (xs.length : Int).toNat) (fun i σ' H' => ∃ (g : Addr) (o4 o5 o6 : Option V), σ' = [some nm, some (.ref a), some hd, some (.ref g), o4, o5, o6] ∧ Sm H H' ∧ H' g = some (.lst ((lvTo N n head (keptTo es i)).map V.str))) ?_ ?_ ?_
    · exact ⟨f, none, none, none, rfl, S0, upd_same⟩
    · rintro i σ' H' hi ⟨g, o4, o5, o6, rfl, s1, eg⟩
      rw [Int.toNat_natCast] at hi
      have hie : i < es.length := by omega
      have ei : es[i]? = some es[i] := List.getElem?_eq_getElem hie
      generalize hee : es[i] = e at ei
      have hwe := wfs_mem hw (List.mem_of_getElem? ei)
      have hde := Nat.le_trans (endeps_mem (List.mem_of_getElem? ei)) hdp
      refine ⟨_, rfl, _, rfl, _, _, rfl, rfl, ?_⟩
      delta tNoPart
      refine ⟨_, rfl, ?_⟩
      have hx1 : Rp K H' (.ref a) (.tuple (En.ds es)) := hx.on (KT.same s1)
      refine slA_drop (K := K) (i + 1) (by omega) (by rw [ends_len]; omega) hx1 fun r H1 s2 hr1 => ?_
      rw [ends_map, ← List.map_drop, ← ends_map] at hr1
      obtain ⟨b, ys, rfl, sb, rb⟩ := hr1.tup_inv
      have hyl : ys.length = (es.drop (i + 1)).length := by rw [rb.length, ends_len]
      have S1 := s1.sm s2
      obtain ⟨v, ev, rv⟩ := ends_at (ra.on (KT.same S1)) ei
      obtain ⟨c, ws, rfl, sc⟩ := en_inv rv
      have sa1 := (KT.same S1).sqt sa
      refine ⟨b, rfl, ⟨_, sb⟩, ?_⟩
      refine for_tup (xs := ys) (fun j σ'' H'' => ∃ (o6 : Option V), σ'' = [some nm, some (.ref a), some hd, some (.ref g), some (.int (0 + (i : Int))), some (.bl (((es.drop (i + 1)).take j).any fun x => sameE x e)), o6] ∧ Sm H1 H'') ?_ ?_ ?_ ?_
      · exact ⟨o6, by simp, Sm.refl'⟩
      · rintro j σ'' H'' _ ⟨_, _, s3⟩
        exact (KT.same s3).sqt sb
      · rintro j y σ'' H'' hy ⟨o6', rfl, s3⟩
        have kt3 := KT.same s3
        obtain ⟨en, e1, ren⟩ := ends_get (rb.on kt3) hy
        obtain ⟨d, wd, rfl, sd⟩ := en_inv ren
        have es1 : ((es.drop (i + 1)).take (j + 1)).any (fun x => sameE x e) = ((((es.drop (i + 1)).take j).any fun x => sameE x e) || sameE en e) := by
          rw [take_snoc e1, List.any_append]
          simp
        refine ⟨_, rfl, _, en, rfl, ren, _, rfl, _, rfl, a, _, _, _, rfl, rfl, kt3.sqt sa1, at_k ev, _, e, rfl, rv.on kt3, rfl, _, rfl, ?_⟩
        rw [dec_s]
        by_cases c1 : en.space = e.space
        · rw [decide_eq_true c1]
          refine iteT (B := _) ?_
          refine ⟨_, rfl, d, _, _, _, rfl, rfl, sd, at1, _, rfl, _, rfl, a, _, _, _, rfl, rfl, kt3.sqt sa1, at_k ev, c, _, _, _, rfl, rfl, kt3.sqt sc, at1, rfl, _, rfl, ?_⟩
          rw [dec_s]
          by_cases c2 : en.name = e.name
          · rw [decide_eq_true c2]
            refine iteT (B := _) ?_
            refine ⟨some (.ref d), ?_, s3⟩
            rw [es1]
            unfold sameE
            rw [decide_eq_true c1, decide_eq_true c2, Bool.and_self, Bool.or_true]
            rfl
          · rw [decide_eq_false c2]
            refine iteF (A := _) ⟨some (.ref d), ?_, s3⟩
            rw [es1]
            unfold sameE
            rw [decide_eq_false c2, Bool.and_false, Bool.or_false]
            rfl
        · rw [decide_eq_false c1]
          refine iteF (A := _) ?_
          refine iteF (A := _) ⟨some (.ref d), ?_, s3⟩
          rw [es1]
          unfold sameE
          rw [decide_eq_false c1, Bool.false_and, Bool.or_false]
          rfl
      · rintro σ'' H'' ⟨o6', rfl, s3⟩
        rw [List.take_of_length_le (by omega)]
        have kt3 := KT.same s3
        have eh : ((es.drop (i + 1)).any fun x => sameE x e) = hid es i e := rfl
        rw [eh]
        have eg3 := s3 _ _ (s2 _ _ eg)
        refine ⟨_, rfl, _, rfl, ?_⟩
        cases c1 : hid es i e with
        | true =>
          refine iteF (A := _) ?_
          refine iteF (A := _) ?_
          refine ⟨g, _, _, _, rfl, S1.sm s3, ?_⟩
          rw [keptTo_succ ei, c1, if_pos rfl, List.append_nil]
          exact eg3
        | false =>
          refine iteT (B := _) ?_
          have nt : e.tag ≠ "name" := by
            cases e with
            | oth g n r => exact (oth_wf hwe).2.2.2.2.2
            | _ => simp only [En.tag]; decide +kernel
          refine ⟨_, rfl, _, rfl, a, _, _, _, rfl, rfl, kt3.sqt sa1, at_k ev, c, _, _, _, rfl, rfl, kt3.sqt sc, at0, rfl, _, rfl, ?_⟩
          rw [dec_s, decide_eq_false nt]
          refine iteT (B := _) ?_
          have S3 := S1.sm s3
          refine ⟨_, rfl, _, rfl, _, rfl, _, rfl, a, _, _, _, rfl, rfl, kt3.sqt sa1, at_k ev, _, rfl, nm, _, hd, N, head, e, rfl, hA.on S3, hh, hn3, rv.on kt3, hwe, hde, fun z H4 s4 ez => ?_⟩
          have ek : keptTo es (i + 1) = keptTo es i ++ [e] := by
            rw [keptTo_succ ei, c1, if_neg Bool.false_ne_true]
          have hcap := lv_ok hA.nm.ok n head (l := keptTo es (i + 1)) (fun q mq => wfs_mem hw (keptTo_mem mq)) (Nat.le_trans (keptTo_len es _) (by omega))
          have e5 : lvTo N n head (keptTo es (i + 1)) = lvTo N n head (keptTo es i) ++ entLines N n head e := by rw [ek, lvTo_app, lvTo_one]
          have hlen2 := hcap.1
          rw [e5, List.length_append] at hlen2
          refine ⟨g, z, _, _, rfl, rfl, s4 _ _ eg3, ez, ?_, fun q hq => ?_⟩
          · rw [List.length_map, List.length_map]; exact small_le (by omega)
          refine ⟨q, _, _, _, rfl, (S3.sm s4).on hq, ?_⟩
          rw [upd_same, e5, List.map_append]
    · rintro σ' H' ⟨g, o4, o5, o6, rfl, s1, eg⟩
      rw [Int.toNat_natCast, hxl] at eg
      exact ⟨_, rfl, k g H' s1 eg⟩
theorem ok_level (T : Txt K mg A) : ∀ n : Nat, FnOk P w K mg base CX0 (2 * n + 45) A.f_level_lines A.d_level_lines ["names", "entries", "head"] (spLevel K n)
  | 0 => ok_levelS T 0 (ok_entryS T 0 (FnOk.mono (T.F_level_lines.ok (k := 0) sc_level_lines (fun _ _ _ _ ⟨_, h, _⟩ => by omega) (fun _ _ _ _ _ _ _ _ _ ⟨_, h, _⟩ => by omega)) (by omega)))
  | n + 1 => ok_levelS T (n + 1) (ok_entryS T (n + 1) (((ok_level T n).imp fun _ _ _ _ ⟨n', h, q⟩ => by cases h; exact q).mono (by omega)))
def spReport (K : PySem.W.Frag) : Sp := fun vs H Q _ => ∃ (nm x : V) (N : List En) (es : List En), vs = [x, nm] ∧ Nm K H nm N ∧ Rp K H x (.tuple (En.ds es)) ∧ En.wfs es = true ∧ En.deps es ≤ 3 ∧ es.length ≤ 8 ∧
  ∀ (a : Addr) (H' : Hp), Sm H H' → H' a = some (.lst ((lvLines N 3 [] es).map V.str)) → Q (.ref a) H'
theorem ok_report (T : Txt K mg A) : FnOk P w K mg base CX0 52 A.f_report A.d_report ["entries", "names"] (spReport K) := by
  have G_level_lines : FnOk P w K mg base CX0 51 A.f_level_lines A.d_level_lines _ _ := ok_level T 3
  refine T.F_report.ok (k := 51) sc_report (fun vs H Q E h => ?_) (fun cdv Ar outer s H vs Q E hr h => ?_)
  · obtain ⟨nm, x, N, es, rfl, _⟩ := h
    rfl
  · obtain ⟨nm, x, N, es, rfl, hN, hx, hw, hd, hl, k⟩ := h
    refine ⟨_, (pss_one (ps_ret (pe_call G_level_lines (hr.mono (by first | decide | omega)) rfl T.g_level_lines T.F_level_lines.kp T.b_level_lines .nil pass0 (pa_cons (pv 1) (pa_cons (pv 0) (pa_cons (pe_tup pa_nil) pa_nil)))))), ?_⟩
    refine ⟨_, rfl, _, rfl, Nat.zero_le _, fun t ht => ?_⟩
    have s1 : Sm H (upd H t (.tup [])) := Sm.new ht
    exact ⟨nm, x, .ref t, N, [], es, rfl, ⟨hN.on s1, Rp.mk upd_same .nil⟩, by simp, by omega, hx.on (KT.same s1), hw, hd, hl, fun a H' s2 ea => k a H' (s1.sm s2) ea⟩
end
end K87

set_option Elab.async false
set_option maxRecDepth 100000
set_option linter.all false
set_option maxHeartbeats 40000000
namespace K87
open PySem L2 GD AG RG
section
variable {P : Program} {w : World} {K : PySem.W.Frag} {mg : Str → Option Value} {base : Heap} {A : Adr}
theorem Sm.rd {H H' : Hp} (s : Sm H H') {a : Addr} {o : HO} (h : Rd H a o) : Rd H' a o := by
  rcases h with h | ⟨ob, h⟩
  · exact .inl (s _ _ h)
  · exact .inr ⟨ob, s _ _ h⟩
def Sq2 (K : PySem.W.Frag) (H : Hp) (a : Addr) (xs : List V) : Prop := SqL K H a xs ∨ SqT K H a xs
theorem Sq2.on {H H' : Hp} {a : Addr} {xs : List V} (h : Sq2 K H a xs) (s : Sm H H') : Sq2 K H' a xs := h.imp (fun q => q.imp s.rd id) (fun q => q.imp s.rd id)
theorem two_ix {H : Hp} {a : Addr} {xs : List V} {i : Int} {v : V} {Q : VK} (h : Sq2 K H a xs) (e : atI xs i = some v) (q : Q v H) : rIxTwo K (.ref a) (.int i) H Q := by
  rcases h with h | h
  · exact .inl ⟨a, xs, i, v, rfl, rfl, h, e, q⟩
  · exact .inr ⟨a, xs, i, v, rfl, rfl, h, e, q⟩
theorem filter_len {α : Type} (p : α → Bool) (l : List α) : decide (V.int ((l.filter p).length : Nat) = V.int 0) = !(l.any p) := by
  rw [dec_i]
  cases h : l.any p with
  | true =>
    obtain ⟨x, m, hx⟩ := List.any_eq_true.mp h
    have := List.length_pos_of_mem (List.mem_filter.mpr ⟨m, hx⟩)
    exact decide_eq_false (by omega)
  | false =>
    have : l.filter p = [] := List.filter_eq_nil_iff.mpr fun x m hx => by
      have := List.any_eq_true.mpr ⟨x, m, hx⟩
      rw [h] at this
      cases this
    rw [this]
    rfl
def spKept (K : PySem.W.Frag) : Sp := fun vs H Q _ => ∃ (a : Addr) (xs : List V) (es : List En), vs = [.ref a] ∧ Sq2 K H a xs ∧ RpAll K H xs (En.ds es) ∧ es.length ≤ 60 ∧
  ∀ (l : Addr) (ys : List V) (H' : Hp), H l = none → Sm H H' → H' l = some (.lst ys) → RpAll K H' ys (En.ds (kept es)) → Q (.ref l) H'
theorem ok_kept (T : Txt K mg A) : FnOk P w K mg base CX0 2 A.f__law_kept A.d__law_kept ["entries"] (spKept K) := by
  have G__law_space : FnOk P w K mg base CX0 1 A.f__law_space A.d__law_space _ _ := ok_space3 T
  refine T.F__law_kept.ok sc__law_kept (fun vs H Q E h => ?_) (fun cdv Ar outer s H vs Q E hr h => ?_)
  · obtain ⟨a, xs, es, rfl, _⟩ := h
    rfl
  · obtain ⟨a, xs, es, rfl, sa, ra, hlen, k⟩ := h
    refine ⟨_, (pss_cons (ps_set (i := 1) sc__law_kept.nd rfl (Or.inl rfl) (pe_lst pa_nil)) (pss_cons (ps_for PassesOwn.never rfl (pi_range1 rfl T.n_range (pa_cons (pe_callB call_len_seq (by rfl) T.n_len PySem.boot_len (pa_cons (pv 0) pa_nil)) pa_nil)) (pg_name (i := 2) sc__law_kept.nd rfl (Or.inr rfl)) (pss_cons (ps_setLc (i := 3) (own := [("e", 4)]) (g := gName 4) rfl sc__law_kept.nd rfl rfl (sw_true rfl rfl rfl (by decide +kernel)) (pi_two (pe_slice sl_two (pv 0) (po_some (pe_op op_add (pv 2) pe_int)) po_none)) (blkOk_by (N := N__law_kept) (sc := defScope s__law_kept) (by decide +kernel)) (fun _ _ _ _ _ => (pg_name (i := 4) sc__law_kept.nd rfl (Or.inl rfl))) (fun _ _ _ _ _ => (pts_one (PW.pt (pw_and (pt_cmpR op_eq (pe_call G__law_space (hr.mono (by first | decide | omega)) rfl T.g__law_space T.F__law_space.kp T.b__law_space .nil pass0 (pa_cons (pv 4) pa_nil)) (pe_call G__law_space (hr.mono (by first | decide | omega)) rfl T.g__law_space T.F__law_space.kp T.b__law_space .nil pass0 (pa_cons (pe_ix (ixTwo (K := K) rfl) (pv 0) (pv 2) (fun _ _ => rfl)) pa_nil)) (nomark _)) (pw_and1 (pt_cmpR op_eq (pe_ix (ixt (K := K) rfl) (pv 4) pe_int (fun _ _ => rfl)) (pe_ix (ixt (K := K) rfl) (pe_ix (ixTwo (K := K) rfl) (pv 0) (pv 2) (fun _ _ => rfl)) pe_int (fun _ _ => rfl)) (nomark _))))))) (fun _ _ _ _ _ => (pv 4))) (pss_one (ps_if (pt_cmpR op_eq (pe_callB call_len_seq (by rfl) T.n_len PySem.boot_len (pa_cons (pv 3) pa_nil)) pe_int (nomark _)) (pss_one (ps_expr (pe_bm PySem.F.plainAttrs_list PySem.F.slot_list_append PySem.F.type_list_append mt_append (pv 1) (pa_cons (pe_ix (ixTwo (K := K) rfl) (pv 0) (pv 2) (fun _ _ => rfl)) pa_nil)))) pss_nil)))) (pss_one (ps_ret (pv 1))))), ?_⟩
    have hxl : xs.length = es.length := by rw [ra.length, ends_len]
    refine ⟨Nat.zero_le _, fun f hf => ?_⟩
    have S0 : Sm H (upd H f (.lst [])) := Sm.new hf
    refine ⟨_, rfl, a, xs, rfl, sa.on S0, (xs.length : Int), rfl, by omega, by omega, ?_⟩
    refine for_range (lo := 0) (n := (xs.length : Int).toNat) (fun i σ' H' => ∃ (o2 o3 o4 : Option V) (acc : List V), σ' = [some (.ref a), some (.ref f), o2, o3, o4] ∧ Sm H H' ∧ H' f = some (.lst acc) ∧ RpAll K H' acc (En.ds (keptTo es i))) ?_ ?_ ?_
    · exact ⟨none, none, none, [], rfl, S0, upd_same, .nil⟩
    · rintro i σ' H' hi ⟨o2, o3, o4, acc, rfl, s1, ef, hacc⟩
      rw [Int.toNat_natCast] at hi
      have hie : i < es.length := by omega
      have ei : es[i]? = some es[i] := List.getElem?_eq_getElem hie
      generalize hee : es[i] = e at ei
      -- the step for one of the later ones
      rcases sa with sl | st
      · have sl1 : SqL K H' a xs := sl.imp s1.rd id
        have sa : Sq2 K H a xs := .inl sl
        refine ⟨_, rfl, _, rfl, _, _, rfl, rfl, ?_⟩
        delta tNoPart
        refine ⟨_, rfl, .inl ⟨a, xs, rfl, sl1, fun b hb0 => ?_⟩⟩
        have s2 : Sm H' (upd H' b (.lst (cutV xs (some (0 + (i : Int) + 1)) none))) := Sm.new hb0
        have ecut : cutV xs (some (0 + (i : Int) + 1)) none = xs.drop (i + 1) := by
          unfold cutV
          rw [show (0 + (i : Int) + 1) = ((i + 1 : Nat) : Int) by omega, sIx_nat (by omega), sIx_none, List.take_of_length_le (by rw [List.length_drop]; omega)]
        have sb0 : (upd H' b (.lst (cutV xs (some (0 + (i : Int) + 1)) none))) b = some (.lst (xs.drop (i + 1))) := by rw [upd_same, ecut]
        have rb0 : RpAll K (upd H' b (.lst (cutV xs (some (0 + (i : Int) + 1)) none))) (xs.drop (i + 1)) (En.ds (es.drop (i + 1))) := by
          have := (ra.on (KT.same (Sm.sm s1 s2))).drop (i + 1)
          rw [ends_map, ← List.map_drop, ← ends_map] at this
          exact this
        generalize (upd H' b (.lst (cutV xs (some (0 + (i : Int) + 1)) none))) = H1 at s2 sb0 rb0 ⊢
        generalize hys : xs.drop (i + 1) = ys at sb0 rb0
        have rb := rb0
        refine ⟨b, rfl, .inl ⟨⟨ys, SqL.of sb0⟩, fun D hD => ?_⟩⟩
        have hyl : ys.length = (es.drop (i + 1)).length := by rw [rb.length, ends_len]
        have S1 : Sm H H1 := s1.sm s2
        have sa1 := sa.on S1
        obtain ⟨v, ev, rv⟩ := ends_at (ra.on (KT.same S1)) ei
        obtain ⟨c, ws, rfl, sc⟩ := en_inv rv
        have dl : (es.drop (i + 1)).length ≤ 60 := by rw [List.length_drop]; omega
        have hf1 : H1 f = some (.lst acc) := s2 _ _ ef
        have hacc1 := hacc.on (KT.same s2)
        refine lc_list (xs := ys) (fun j H'' => Sm H1 H'' ∧ ∃ bcc : List V, H'' D = some (.lst bcc) ∧ bcc.length = (((es.drop (i + 1)).take j).filter fun x => sameE x e).length) ⟨Sm.new hD, [], upd_same, by simp⟩ ?_ ?_ ?_
        · rintro j H'' _ ⟨s3, _⟩
          exact (SqL.of (s3 _ _ sb0))
        · rintro j y H'' hy ⟨s3, bcc, hb, hbl⟩
          have kt3 := KT.same s3
          obtain ⟨en, e1, ren⟩ := ends_get (rb.on kt3) hy
          obtain ⟨d, wd, rfl, sd⟩ := en_inv ren
          have es1 : ((es.drop (i + 1)).take (j + 1)).filter (fun x => sameE x e) = (((es.drop (i + 1)).take j).filter fun x => sameE x e) ++ (if sameE en e = true then [en] else []) := by
            rw [take_snoc e1, List.filter_append]
            congr 1
            cases c0 : sameE en e <;> simp [c0]
          have bl : bcc.length ≤ 60 := by
            rw [hbl]
            exact Nat.le_trans (List.length_filter_le _ _) (by rw [List.length_take]; omega)
          refine ⟨rfl, ?_⟩
          refine ⟨_, rfl, _, en, rfl, ren, _, rfl, _, rfl, two_ix (K := K) (sa1.on s3) (at_k ev) ⟨_, e, rfl, rv.on kt3, rfl, _, rfl, ?_⟩⟩
          rw [dec_s]
          by_cases c1 : en.space = e.space
          · rw [decide_eq_true c1]
            refine iteT (B := _) ?_
            refine ⟨_, rfl, d, _, _, _, rfl, rfl, sd, at1, _, rfl, _, rfl, two_ix (K := K) (sa1.on s3) (at_k ev) ⟨c, _, _, _, rfl, rfl, kt3.sqt sc, at1, rfl, _, rfl, ?_⟩⟩
            rw [dec_s]
            by_cases c2 : en.name = e.name
            · rw [decide_eq_true c2]
              refine iteT (B := _) ?_
              refine ⟨_, rfl, bcc, hb, small_lt (by omega), s3.upd (id hD), bcc ++ [.ref d], upd_same, ?_⟩
              rw [es1, if_pos (by unfold sameE; rw [decide_eq_true c1, decide_eq_true c2]; rfl)]
              simp [hbl]
            · rw [decide_eq_false c2]
              refine iteF (A := _) ⟨s3, bcc, hb, ?_⟩
              rw [es1, if_neg (by unfold sameE; rw [decide_eq_false c2, Bool.and_false]; decide), List.append_nil]
              exact hbl
          · rw [decide_eq_false c1]
            refine iteF (A := _) ?_
            refine iteF (A := _) ⟨s3, bcc, hb, ?_⟩
            rw [es1, if_neg (by unfold sameE; rw [decide_eq_false c1, Bool.false_and]; decide), List.append_nil]
            exact hbl
        · rintro H'' ⟨s3, bcc, hb, hbl⟩
          rw [List.take_of_length_le (by omega)] at hbl
          have kt3 := KT.same s3
          refine ⟨_, rfl, D, bcc, rfl, .inl (SqL.of hb), rfl, _, rfl, ?_⟩
          rw [hbl, filter_len]
          have eh : ((es.drop (i + 1)).any fun x => sameE x e) = hid es i e := rfl
          rw [eh]
          have hf3 := s3 _ _ hf1
          have hacc3 := hacc1.on kt3
          cases c1 : hid es i e with
          | true =>
            refine iteF (A := _) ?_
            refine ⟨_, _, _, acc, rfl, S1.sm s3, hf3, ?_⟩
            rw [keptTo_succ ei, c1, if_pos rfl, List.append_nil]
            exact hacc3
          | false =>
            refine iteT (B := _) ?_
            have al : acc.length ≤ 60 := by
              rw [hacc.length, ends_len]
              exact Nat.le_trans (keptTo_len es i) (by omega)
            refine ⟨_, rfl, .inl ⟨rfl, _, SqL.of hf3⟩, _, rfl, _, rfl, two_ix (K := K) (sa1.on s3) (at_k ev) ⟨f, acc, _, rfl, rfl, hf3, small_lt (by omega), ?_⟩⟩
            have ktu : KT H'' (upd H'' f (.lst (acc ++ [.ref c]))) := KT.upd_lst (NT.lst hf3)
            refine ⟨_, _, _, acc ++ [.ref c], rfl, (S1.sm s3).upd hf, upd_same, ?_⟩
            rw [keptTo_succ ei, c1, if_neg Bool.false_ne_true, ends_map, List.map_append, ← ends_map]
            exact RpAll.app (hacc3.on ktu) (.cons ((rv.on kt3).on ktu) .nil)
      · have st1 : SqT K H' a xs := (KT.same s1).sqt st
        have sa : Sq2 K H a xs := .inr st
        refine ⟨_, rfl, _, rfl, _, _, rfl, rfl, ?_⟩
        delta tNoPart
        have hx1 : Rp K H' (.ref a) (.tuple (En.ds es)) := .tup st1 (ra.on (KT.same s1))
        refine ⟨_, rfl, .inr ?_⟩
        refine slA_drop (K := K) (i + 1) (by omega) (by rw [ends_len]; omega) hx1 fun r H1 s2 hr1 => ?_
        rw [ends_map, ← List.map_drop, ← ends_map] at hr1
        obtain ⟨b, ys, rfl, sb, rb⟩ := hr1.tup_inv
        refine ⟨b, rfl, .inr ⟨⟨ys, sb⟩, fun D hD => ?_⟩⟩
        have hyl : ys.length = (es.drop (i + 1)).length := by rw [rb.length, ends_len]
        have S1 : Sm H H1 := s1.sm s2
        have sa1 := sa.on S1
        obtain ⟨v, ev, rv⟩ := ends_at (ra.on (KT.same S1)) ei
        obtain ⟨c, ws, rfl, sc⟩ := en_inv rv
        have dl : (es.drop (i + 1)).length ≤ 60 := by rw [List.length_drop]; omega
        have hf1 : H1 f = some (.lst acc) := s2 _ _ ef
        have hacc1 := hacc.on (KT.same s2)
        refine lc_tup (xs := ys) (fun j H'' => Sm H1 H'' ∧ ∃ bcc : List V, H'' D = some (.lst bcc) ∧ bcc.length = (((es.drop (i + 1)).take j).filter fun x => sameE x e).length) ⟨Sm.new hD, [], upd_same, by simp⟩ ?_ ?_ ?_
        · rintro j H'' _ ⟨s3, _⟩
          exact (KT.same s3).sqt sb
        · rintro j y H'' hy ⟨s3, bcc, hb, hbl⟩
          have kt3 := KT.same s3
          obtain ⟨en, e1, ren⟩ := ends_get (rb.on kt3) hy
          obtain ⟨d, wd, rfl, sd⟩ := en_inv ren
          have es1 : ((es.drop (i + 1)).take (j + 1)).filter (fun x => sameE x e) = (((es.drop (i + 1)).take j).filter fun x => sameE x e) ++ (if sameE en e = true then [en] else []) := by
            rw [take_snoc e1, List.filter_append]
            congr 1
            cases c0 : sameE en e <;> simp [c0]
          have bl : bcc.length ≤ 60 := by
            rw [hbl]
            exact Nat.le_trans (List.length_filter_le _ _) (by rw [List.length_take]; omega)
          refine ⟨rfl, ?_⟩
          refine ⟨_, rfl, _, en, rfl, ren, _, rfl, _, rfl, two_ix (K := K) (sa1.on s3) (at_k ev) ⟨_, e, rfl, rv.on kt3, rfl, _, rfl, ?_⟩⟩
          rw [dec_s]
          by_cases c1 : en.space = e.space
          · rw [decide_eq_true c1]
            refine iteT (B := _) ?_
            refine ⟨_, rfl, d, _, _, _, rfl, rfl, sd, at1, _, rfl, _, rfl, two_ix (K := K) (sa1.on s3) (at_k ev) ⟨c, _, _, _, rfl, rfl, kt3.sqt sc, at1, rfl, _, rfl, ?_⟩⟩
            rw [dec_s]
            by_cases c2 : en.name = e.name
            · rw [decide_eq_true c2]
              refine iteT (B := _) ?_
              refine ⟨_, rfl, bcc, hb, small_lt (by omega), s3.upd (id hD), bcc ++ [.ref d], upd_same, ?_⟩
              rw [es1, if_pos (by unfold sameE; rw [decide_eq_true c1, decide_eq_true c2]; rfl)]
              simp [hbl]
            · rw [decide_eq_false c2]
              refine iteF (A := _) ⟨s3, bcc, hb, ?_⟩
              rw [es1, if_neg (by unfold sameE; rw [decide_eq_false c2, Bool.and_false]; decide), List.append_nil]
              exact hbl
          · rw [decide_eq_false c1]
            refine iteF (A := _) ?_
            refine iteF (A := _) ⟨s3, bcc, hb, ?_⟩
            rw [es1, if_neg (by unfold sameE; rw [decide_eq_false c1, Bool.false_and]; decide), List.append_nil]
            exact hbl
        · rintro H'' ⟨s3, bcc, hb, hbl⟩
          rw [List.take_of_length_le (by omega)] at hbl
          have kt3 := KT.same s3
          refine ⟨_, rfl, D, bcc, rfl, .inl (SqL.of hb), rfl, _, rfl, ?_⟩
          rw [hbl, filter_len]
          have eh : ((es.drop (i + 1)).any fun x => sameE x e) = hid es i e := rfl
          rw [eh]
          have hf3 := s3 _ _ hf1
          have hacc3 := hacc1.on kt3
          cases c1 : hid es i e with
          | true =>
            refine iteF (A := _) ?_
            refine ⟨_, _, _, acc, rfl, S1.sm s3, hf3, ?_⟩
            rw [keptTo_succ ei, c1, if_pos rfl, List.append_nil]
            exact hacc3
          | false =>
            refine iteT (B := _) ?_
            have al : acc.length ≤ 60 := by
              rw [hacc.length, ends_len]
              exact Nat.le_trans (keptTo_len es i) (by omega)
            refine ⟨_, rfl, .inl ⟨rfl, _, SqL.of hf3⟩, _, rfl, _, rfl, two_ix (K := K) (sa1.on s3) (at_k ev) ⟨f, acc, _, rfl, rfl, hf3, small_lt (by omega), ?_⟩⟩
            have ktu : KT H'' (upd H'' f (.lst (acc ++ [.ref c]))) := KT.upd_lst (NT.lst hf3)
            refine ⟨_, _, _, acc ++ [.ref c], rfl, (S1.sm s3).upd hf, upd_same, ?_⟩
            rw [keptTo_succ ei, c1, if_neg Bool.false_ne_true, ends_map, List.map_append, ← ends_map]
            exact RpAll.app (hacc3.on ktu) (.cons ((rv.on kt3).on ktu) .nil)
    · rintro σ' H' ⟨o2, o3, o4, acc, rfl, s1, ef, hacc⟩
      rw [Int.toNat_natCast, hxl] at hacc
      exact ⟨_, rfl, k f acc H' hf s1 ef hacc⟩
end
end K87

set_option Elab.async false
set_option maxRecDepth 100000
set_option linter.all false
set_option maxHeartbeats 40000000
namespace K87
open PySem L2 GD AG RG
section
variable {P : Program} {w : World} {K : PySem.W.Frag} {mg : Str → Option Value} {base : Heap} {A : Adr}
theorem ok_lpathsS (T : Txt K mg A) (n : Nat) (G : FnOk P w K mg base CX0 (n + 1) A.f__law_paths A.d__law_paths ["entries", "head"] (Less (spPaths K) n)) : FnOk P w K mg base CX0 (n + 2) A.f__law_paths A.d__law_paths ["entries", "head"] (spPaths K n) := by
  have G__law_paths : FnOk P w K mg base CX0 (n + 1) A.f__law_paths A.d__law_paths _ _ := G
  refine T.F__law_paths.ok (k := n + 1) sc__law_paths (fun vs H Q E h => ?_) (fun cdv Ar outer s H vs Q E hr h => ?_)
  · obtain ⟨x, y, es, head, rfl, _⟩ := h
    rfl
  · obtain ⟨x, y, es, head, rfl, hx, hy, hw, hd, hl, hh, hn, k⟩ := h
    refine ⟨_, (pss_cons (ps_setLc (i := 3) (own := [("entry", 2)]) (g := gName 2) rfl sc__law_paths.nd rfl rfl (sw_true rfl rfl rfl (by decide +kernel)) (pi_tup (pv 0)) (blkOk_by (N := N__law_paths) (sc := defScope s__law_paths) (by decide +kernel)) (fun _ _ _ _ _ => (pg_name (i := 2) sc__law_paths.nd rfl (Or.inl rfl))) (fun _ _ _ _ _ => (pts_one (pt_cmpR op_eq (pe_ix (ixt (K := K) rfl) (pv 2) pe_int (fun _ _ => rfl)) pe_str (nomark _)))) (fun _ _ _ _ _ => (pe_tup (pa_cons (pe_op (catK (K := K) rfl) (pv 1) (pe_tup (pa_cons (pe_ix (ixt (K := K) rfl) (pv 2) pe_int (fun _ _ => rfl)) pa_nil))) (pa_cons (pv 2) pa_nil))))) (pss_cons (ps_for PassesOwn.never rfl (pi_tup (pv 0)) (pg_name (i := 2) sc__law_paths.nd rfl (Or.inl rfl)) (pss_one (ps_if (pt_cmpR op_eq (pe_ix (ixt (K := K) rfl) (pv 2) pe_int (fun _ _ => rfl)) pe_str (nomark _)) (pss_one (ps_set (i := 3) sc__law_paths.nd rfl (Or.inl rfl) (pe_op op_cat (pv 3) (pe_call G__law_paths (hr.mono (by first | decide | omega)) rfl T.g__law_paths T.F__law_paths.kp T.b__law_paths .nil pass0 (pa_cons (pe_ix (ixt (K := K) rfl) (pv 2) pe_int (fun _ _ => rfl)) (pa_cons (pe_op (catK (K := K) rfl) (pv 1) (pe_tup (pa_cons (pe_ix (ixt (K := K) rfl) (pv 2) pe_int (fun _ _ => rfl)) pa_nil))) pa_nil)))))) pss_nil))) (pss_one (ps_ret (pv 3))))), ?_⟩
    obtain ⟨a, xs, rfl, sa, ra⟩ := hx.tup_inv
    have hcap := paths_cap (head := head) hd hw hl hn
    refine ⟨_, rfl, a, rfl, ⟨_, sa⟩, fun f hf => ?_⟩
    refine lc_tup (xs := xs) (fun i H' => Sm H H' ∧ ∃ acc : List V, H' f = some (.lst acc) ∧ RpAll K H' acc (((es.take i).filterMap (shpOf head)).map pairD)) ⟨Sm.new hf, [], upd_same, by simp; exact .nil⟩ ?_ ?_ ?_
    · rintro i H' _ ⟨s1, _⟩
      exact (KT.same s1).sqt sa
    · rintro i v H' hv ⟨s1, acc, ef, hacc⟩
      obtain ⟨en, e1, ren⟩ := ends_get (ra.on (KT.same s1)) hv
      obtain ⟨b, ws, rfl, sb⟩ := en_inv ren
      have wen := wfs_mem hw (List.mem_of_getElem? e1)
      refine ⟨rfl, ?_⟩
      refine ⟨_, rfl, b, _, _, _, rfl, rfl, sb, at0, rfl, _, rfl, ?_⟩
      rw [dec_s]
      by_cases c : en.tag = "shape"
      · rw [decide_eq_true c]
        refine iteT (B := _) ?_
        obtain ⟨m, n', sh, rfl⟩ := shp_of wen c
        obtain ⟨b', v3, e, sb', h3, hm⟩ := shp_inv ren
        cases e
        refine ⟨_, rfl, _, rfl, b, _, _, _, rfl, rfl, sb', at1, (show 1 ≤ sizeLine by decide), fun t ht => ?_⟩
        refine cat_head (K := K) (hy.on (KT.same s1)) hm (by omega) ht fun r H1 s2 hr1 => ?_
        have kt2 := KT.same s2
        refine ⟨_, rfl, (show 2 ≤ sizeLine by decide), fun u hu => ?_⟩
        have ef1 : H1 f = some (.lst acc) := s2 _ _ ef
        have ef2 : (upd H1 u (.tup [r, .ref b])) f = some (.lst acc) := (Sm.new hu) _ _ ef1
        have rp := pair_rp (q := (head ++ [m], En.shp m n' sh)) hr1 (ren.on kt2) hu
        have hacc2 := (hacc.on kt2).on (KT.upd_new (o := .tup [r, .ref b]) hu)
        have S2 : Sm H (upd H1 u (.tup [r, .ref b])) := (Sm.sm s1 s2).on hu
        generalize (upd H1 u (.tup [r, .ref b])) = H2 at ef2 rp hacc2 S2 ⊢
        have hal : acc.length ≤ 60 := by
          rw [hacc.length, List.length_map]
          have := fm_len (shpOf head) (es.take i)
          rw [List.length_take] at this
          omega
        have kt3 : KT H2 (upd H2 f (.lst (acc ++ [.ref u]))) := KT.upd_lst (NT.lst ef2)
        refine ⟨acc, ef2, small_lt (by omega), S2.upd hf, acc ++ [.ref u], upd_same, ?_⟩
        rw [fm_snoc e1, List.map_append]
        exact RpAll.app (hacc2.on kt3) (.cons (rp.on kt3) .nil)
      · rw [decide_eq_false c]
        refine iteF (A := _) ?_
        refine ⟨s1, acc, ef, ?_⟩
        rw [fm_snoc e1]
        have : shpOf head en = none := by
          cases en with
          | shp m n' sh => exact absurd rfl c
          | _ => rfl
        rw [this, List.append_nil]
        exact hacc
    · rintro H' ⟨s1, acc, ef, hacc⟩
      have sa1 := (KT.same s1).sqt sa
      have ra1 := ra.on (KT.same s1)
      have hy1 := hy.on (KT.same s1)
      have hxl : xs.length = es.length := by rw [ra.length, ends_len]
      rw [hxl, List.take_length] at hacc
      refine ⟨_, rfl, a, rfl, ⟨_, sa1⟩, ?_⟩
      refine for_tup (xs := xs) (fun i σ'' H'' => ∃ (o : Option V) (g : Addr) (acc : List V), σ'' = [some (.ref a), some y, o, some (.ref g)] ∧ Sm H' H'' ∧ H'' g = some (.lst acc) ∧ RpAll K H'' acc ((es.filterMap (shpOf head) ++ En.pathss head (es.take i)).map pairD)) ?_ ?_ ?_ ?_
      · exact ⟨_, f, acc, rfl, Sm.refl', ef, by simpa [En.pathss] using hacc⟩
      · rintro i σ'' H'' _ ⟨_, _, _, _, s2, _⟩
        exact (KT.same s2).sqt sa1
      · rintro i v σ'' H'' hv ⟨o, g, acc2, rfl, s2, eg, hacc2⟩
        obtain ⟨en, e1, ren⟩ := ends_get (ra1.on (KT.same s2)) hv
        obtain ⟨b, ws, rfl, sb⟩ := en_inv ren
        have men := List.mem_of_getElem? e1
        have wen := wfs_mem hw men
        refine ⟨_, rfl, b, _, _, _, rfl, rfl, sb, at0, rfl, _, rfl, ?_⟩
        rw [dec_s]
        by_cases c : en.tag = "module"
        · rw [decide_eq_true c]
          refine iteT (B := _) ?_
          obtain ⟨m, l, rfl⟩ := mod_of wen c
          obtain ⟨b', v3, e, sb', h3, hm⟩ := mod_inv ren
          cases e
          have dl : (En.mod m l).dep ≤ n := Nat.le_trans (endeps_mem men) hd
          simp only [En.dep] at dl
          have wl := wen
          simp only [En.wf, Bool.and_eq_true, decide_eq_true_eq] at wl
          refine ⟨_, rfl, _, rfl, b, _, _, _, rfl, rfl, sb', at2, _, rfl, _, rfl, b, _, _, _, rfl, rfl, sb', at1, (show 1 ≤ sizeLine by decide), fun t ht => ?_⟩
          refine cat_head (K := K) (hy1.on (KT.same s2)) hm (by omega) ht fun r H1 s3 hr1 => ?_
          refine ⟨n - 1, by omega, v3, r, l, head ++ [m], rfl, h3.on (KT.same s3), hr1, wl.2, by omega, by omega, by rw [List.length_append]; simp only [List.length_cons, List.length_nil]; omega, by omega, fun z zs H2 s4 ez hzs => ?_⟩
          have eg2 : H2 g = some (.lst acc2) := s4 _ _ (s3 _ _ eg)
          have hacc3 := (hacc2.on (KT.same s3)).on (KT.same s4)
          have e5 : (es.filterMap (shpOf head) ++ En.pathss head (es.take (i + 1))).map pairD = (es.filterMap (shpOf head) ++ En.pathss head (es.take i)).map pairD ++ (paths l (head ++ [m])).map pairD := by
            rw [pathss_snoc e1, paths_mod, ← List.append_assoc, List.map_append]
          have hle := pathss_le head es (i + 1)
          have hlen : acc2.length + zs.length = (es.filterMap (shpOf head) ++ En.pathss head (es.take (i + 1))).length := by
            rw [← List.length_map (f := pairD), e5, List.length_append, hacc3.length, hzs.length]
          refine ⟨g, z, acc2, zs, rfl, rfl, eg2, ez, small_le (by omega), fun q hq => ?_⟩
          have ktq := KT.upd_new (o := .lst (acc2 ++ zs)) hq
          refine ⟨_, q, acc2 ++ zs, rfl, (Sm.sm (Sm.sm s2 s3) s4).on hq, upd_same, ?_⟩
          rw [e5]
          exact RpAll.app (hacc3.on ktq) (hzs.on ktq)
        · rw [decide_eq_false c]
          refine iteF (A := _) ?_
          refine ⟨_, g, acc2, rfl, s2, eg, ?_⟩
          rw [pathss_snoc e1]
          have : En.paths head en = [] := by
            cases en with
            | mod m l => exact absurd rfl c
            | _ => simp [En.paths]
          rw [this, List.append_nil]
          exact hacc2
      · rintro σ'' H'' ⟨o, g, acc2, rfl, s2, eg, hacc2⟩
        rw [hxl, List.take_length] at hacc2
        exact ⟨_, rfl, k g acc2 _ (Sm.sm s1 s2) eg hacc2⟩
theorem ok_lpaths (T : Txt K mg A) : ∀ n : Nat, FnOk P w K mg base CX0 (n + 2) A.f__law_paths A.d__law_paths ["entries", "head"] (spPaths K n)
  | 0 => ok_lpathsS T 0 (T.F__law_paths.ok (k := 0) sc__law_paths (fun _ _ _ _ ⟨_, h, _⟩ => by omega) (fun _ _ _ _ _ _ _ _ _ ⟨_, h, _⟩ => by omega))
  | n + 1 => ok_lpathsS T (n + 1) ((ok_lpaths T n).imp fun _ _ _ _ ⟨n', h, q⟩ => by cases h; exact q)
theorem ends_app {H : Hp} {vs ws : List V} {l m : List En} (h : RpAll K H vs (En.ds l)) (k : RpAll K H ws (En.ds m)) : RpAll K H (vs ++ ws) (En.ds (l ++ m)) := by
  rw [ends_map, List.map_append, ← ends_map, ← ends_map]
  exact h.app k
def spFound (K : PySem.W.Frag) : Sp := fun vs H Q _ => ∃ (x y : V) (es : List En) (p : List Str), vs = [x, y] ∧ Rp K H x (.tuple (En.ds es)) ∧ En.wfs es = true ∧ es.length ≤ 60 ∧ Rp K H y (pathD p) ∧ p ≠ [] ∧ ∀ (v : V) (H' : Hp), Sm H H' → Rp K H' v (optD (lookE es "shape" p)) → Q v H'
theorem ok_found (T : Txt K mg A) : FnOk P w K mg base CX0 1 A.f__law_found A.d__law_found ["names", "path"] (spFound K) := by
  refine T.F__law_found.ok sc__law_found (fun vs H Q E h => ?_) (fun cdv Ar outer s H vs Q E hr h => ?_)
  · obtain ⟨x, y, es, p, rfl, _⟩ := h
    rfl
  · obtain ⟨x, y, es, p, rfl, hx, hw, hlen, hy, hp, k⟩ := h
    refine ⟨_, (pss_cons (ps_set (i := 2) sc__law_found.nd rfl (Or.inl rfl) (pv 0)) (pss_cons (ps_for PassesOwn.never rfl (pi_tup (pe_slice sl_tupA (pv 1) po_none (po_some (pe_un un_neg pe_int)))) (pg_name (i := 3) sc__law_found.nd rfl (Or.inr rfl)) (pss_cons (ps_setLc (i := 4) (own := [("entry", 6)]) (g := gName 6) rfl sc__law_found.nd rfl rfl (sw_true rfl rfl rfl (by decide +kernel)) (pi_tup (pv 2)) (blkOk_by (N := N__law_found) (sc := defScope s__law_found) (by decide +kernel)) (fun _ _ _ _ _ => (pg_name (i := 6) sc__law_found.nd rfl (Or.inl rfl))) (fun _ _ _ _ _ => (pts_one (PW.pt (pw_and (pt_cmpR op_eq (pe_ix (ixt (K := K) rfl) (pv 6) pe_int (fun _ _ => rfl)) pe_str (nomark _)) (pw_and1 (pt_cmpR op_eq (pe_ix (ixt (K := K) rfl) (pv 6) pe_int (fun _ _ => rfl)) (pv 3) (nomark _))))))) (fun _ _ _ _ _ => (pv 6))) (pss_cons (ps_if (pt_cmpR op_eq (pe_callB call_len_seq (by rfl) T.n_len PySem.boot_len (pa_cons (pv 4) pa_nil)) pe_int (nomark _)) (pss_one (ps_ret pe_non)) pss_nil) (pss_one (ps_set (i := 2) sc__law_found.nd rfl (Or.inl rfl) (pe_ix (ixt (K := K) rfl) (pe_ix (ixl (K := K) rfl) (pv 4) (pe_un un_neg pe_int) (fun _ _ => rfl)) pe_int (fun _ _ => rfl))))))) (pss_cons (ps_setLc (i := 5) (own := [("entry", 6)]) (g := gName 6) rfl sc__law_found.nd rfl rfl (sw_true rfl rfl rfl (by decide +kernel)) (pi_tup (pv 2)) (blkOk_by (N := N__law_found) (sc := defScope s__law_found) (by decide +kernel)) (fun _ _ _ _ _ => (pg_name (i := 6) sc__law_found.nd rfl (Or.inl rfl))) (fun _ _ _ _ _ => (pts_one (PW.pt (pw_and (pt_cmpR op_eq (pe_ix (ixt (K := K) rfl) (pv 6) pe_int (fun _ _ => rfl)) pe_str (nomark _)) (pw_and1 (pt_cmpR op_eq (pe_ix (ixt (K := K) rfl) (pv 6) pe_int (fun _ _ => rfl)) (pe_ix (ixt (K := K) rfl) (pv 1) (pe_un un_neg pe_int) (fun _ _ => rfl)) (nomark _))))))) (fun _ _ _ _ _ => (pv 6))) (pss_one (ps_ret (pe_ifExp (pt_cmpR op_gt (pe_callB call_len_seq (by rfl) T.n_len PySem.boot_len (pa_cons (pv 5) pa_nil)) pe_int (nomark _)) (pe_ix (ixl (K := K) rfl) (pv 5) (pe_un un_neg pe_int) (fun _ _ => rfl)) pe_non)))))), ?_⟩
    have hpl : 0 < p.length := List.length_pos_iff.mpr hp
    -- those of a level with a tag and a name
    refine ⟨_, rfl, ?_⟩
    refine ⟨_, rfl, ?_⟩
    delta tNoPart
    refine ⟨_, rfl, _, rfl, ?_⟩
    refine slA_init (K := K) (by rw [List.length_map]; exact hpl) hy fun r H1 s1 hr1 => ?_
    rw [List.length_map, ← List.map_take] at hr1
    obtain ⟨g, gs, rfl, sg, rg⟩ := hr1.tup_inv
    have hgl : gs.length = p.length - 1 := by rw [rg.length, List.length_map, List.length_take]; omega
    refine ⟨g, rfl, ⟨_, sg⟩, ?_⟩
    refine for_tup (xs := gs) (fun i σ' H' => ∃ (o3 o4 : Option V) (ex : V) (es' : List En), σ' = [some x, some y, some ex, o3, o4, none, none] ∧ Sm H1 H' ∧ Rp K H' ex (.tuple (En.ds es')) ∧ En.wfs es' = true ∧ es'.length ≤ 60 ∧ lookE es "shape" p = lookE es' "shape" (p.drop i)) ?_ ?_ ?_ ?_
    · exact ⟨none, none, x, es, rfl, Sm.refl', hx.on (KT.same s1), hw, hlen, rfl⟩
    · rintro i σ' H' _ ⟨_, _, _, _, _, s2, _⟩
      exact (KT.same s2).sqt sg
    · rintro i v σ' H' hv ⟨o3, o4, ex, es', rfl, s2, hex, hw', hlen', el⟩
      obtain ⟨z, ez, rfl⟩ := path_get rg hv
      have hi : i < p.length - 1 := by rw [← hgl]; exact (List.getElem?_eq_some_iff.mp hv).1
      have ez' : p[i]? = some z := by
        rw [List.getElem?_take] at ez
        rw [if_pos hi] at ez
        exact ez
      have ed : p.drop i = z :: p.drop (i + 1) := by
        have h1 := (List.getElem?_eq_some_iff.mp ez').2
        rw [← h1]
        exact (List.getElem_cons_drop (by omega)).symm
      obtain ⟨z2, r2, e2⟩ : ∃ z2 r2, p.drop (i + 1) = z2 :: r2 := by
        cases e : p.drop (i + 1) with
        | nil => have := congrArg List.length e; rw [List.length_drop, List.length_nil] at this; omega
        | cons z2 r2 => exact ⟨z2, r2, rfl⟩
      rw [ed, e2, lookE_step] at el
      have lf := lastE_filter (es := es') (x := z) (sp := "module") space_mod
      obtain ⟨a, xs, rfl, sa, ra⟩ := hex.tup_inv
      have hxl : xs.length = es'.length := by rw [ra.length, ends_len]
      refine ⟨_, rfl, a, rfl, ⟨_, sa⟩, fun D hD => ?_⟩
      refine lc_tup (xs := xs) (fun j H'' => Sm H' H'' ∧ ∃ acc : List V, H'' D = some (.lst acc) ∧ RpAll K H'' acc (En.ds ((es'.take j).filter fun e => decide (e.tag = ("module" : Str)) && decide (e.name = z)))) ⟨Sm.new hD, [], upd_same, by simp; exact .nil⟩ ?_ ?_ ?_
      · rintro j H'' _ ⟨s3, _⟩
        exact (KT.same s3).sqt sa
      · rintro j v H'' hv ⟨s3, acc, eD, hacc⟩
        have kt3 := KT.same s3
        obtain ⟨en, e1, ren⟩ := ends_get (ra.on kt3) hv
        obtain ⟨b, ws, rfl, sb⟩ := en_inv ren
        have es1 : (es'.take (j + 1)).filter (fun e => decide (e.tag = ("module" : Str)) && decide (e.name = z)) = ((es'.take j).filter fun e => decide (e.tag = ("module" : Str)) && decide (e.name = z)) ++ (if (decide (en.tag = ("module" : Str)) && decide (en.name = z)) = true then [en] else []) := by
          rw [take_snoc e1, List.filter_append]
          congr 1
          cases c0 : (decide (en.tag = ("module" : Str)) && decide (en.name = z)) <;> simp [c0]
        have al : acc.length ≤ 60 := by
          rw [hacc.length, ends_len]
          exact Nat.le_trans (List.length_filter_le _ _) (by rw [List.length_take]; omega)
        refine ⟨rfl, ?_⟩
        refine ⟨_, rfl, b, _, _, _, rfl, rfl, sb, at0, rfl, _, rfl, ?_⟩
        rw [dec_s]
        by_cases c1 : en.tag = ("module" : Str)
        · rw [decide_eq_true c1]
          refine iteT (B := _) ?_
          refine ⟨_, rfl, b, _, _, _, rfl, rfl, sb, at1, _, rfl, rfl, _, rfl, ?_⟩
          rw [dec_s]
          by_cases c2 : en.name = z
          · rw [decide_eq_true c2]
            refine iteT (B := _) ?_
            have ktu : KT H'' (upd H'' D (.lst (acc ++ [.ref b]))) := KT.upd_lst (NT.lst eD)
            refine ⟨_, rfl, acc, eD, small_lt (by omega), s3.upd hD, acc ++ [.ref b], upd_same, ?_⟩
            rw [es1, if_pos (by rw [decide_eq_true c1, decide_eq_true c2]; rfl)]
            exact ends_app (hacc.on ktu) (.cons (ren.on ktu) .nil)
          · rw [decide_eq_false c2]
            refine iteF (A := _) ⟨s3, acc, eD, ?_⟩
            rw [es1, if_neg (by rw [decide_eq_false c2, Bool.and_false]; decide), List.append_nil]
            exact hacc
        · rw [decide_eq_false c1]
          refine iteF (A := _) ?_
          refine iteF (A := _) ⟨s3, acc, eD, ?_⟩
          rw [es1, if_neg (by rw [decide_eq_false c1, Bool.false_and]; decide), List.append_nil]
          exact hacc
      · rintro H2 ⟨s3, acc, eD, hacc⟩
        rw [List.take_of_length_le (by omega)] at hacc
        refine ⟨_, rfl, D, acc, rfl, .inl (SqL.of eD), rfl, _, rfl, ?_⟩
        cases e1 : lastE es' "module" z with
        | none =>
          rw [e1] at lf el
          have e0 := List.getLast?_eq_none_iff.mp lf
          rw [e0] at hacc
          have ea := hacc.nil_inv
          subst ea
          refine iteY rfl ?_
          refine k _ H2 (Sm.sm s1 (s2.sm s3)) ?_
          rw [el]
          exact .non
        | some en =>
          rw [e1] at lf el
          obtain ⟨hm, hn, hs⟩ := lastE_mem e1
          obtain ⟨n, l, rfl⟩ := mod_of (wfs_mem hw' hm) ((space_mod en).mp hs)
          have hwl := wfs_mem hw' hm
          simp only [En.wf, Bool.and_eq_true, decide_eq_true_eq] at hwl
          obtain ⟨ys, ey⟩ := List.getLast?_eq_some_iff.mp lf
          rw [ey, ends_map, List.map_append, ← ends_map] at hacc
          obtain ⟨acc', v, rfl, _, hv2⟩ := snoc_inv (ds := En.ds ys) hacc
          obtain ⟨b, v3, rfl, sb, h3, _⟩ := mod_inv hv2
          refine iteN (by rw [dec_i]; exact decide_eq_false (by rw [List.length_append]; simp only [List.length_cons, List.length_nil]; omega)) ?_
          refine ⟨_, rfl, _, rfl, D, _, _, _, rfl, rfl, SqL.of eD, atI_last _ _, b, _, _, _, rfl, rfl, sb, at2, ?_⟩
          exact ⟨_, _, v3, l, rfl, s2.sm s3, h3, hwl.2, by omega, by rw [el, e2]⟩
    · rintro σ' H' ⟨o3, o4, ex, es', rfl, s2, hex, hw', hlen', el⟩
      have s02 : Sm H H' := Sm.sm s1 s2
      obtain ⟨c, ys, rfl, sc, rc⟩ := (hy.on (KT.same s02)).tup_inv
      have hbl : ys.length = p.length := by rw [rc.length, List.length_map]
      obtain ⟨v, ev⟩ : ∃ v, ys[ys.length - 1]? = some v := ⟨_, List.getElem?_eq_getElem (by omega)⟩
      obtain ⟨z, ez, rfl⟩ := path_get rc ev
      have ed : p.drop gs.length = [z] := by
        rw [hbl] at ez
        have h1 := (List.getElem?_eq_some_iff.mp ez).2
        rw [hgl, ← h1, ← List.getElem_cons_drop (by omega), List.drop_of_length_le (by omega)]
      rw [ed, lookE_one] at el
      have lf := lastE_filter (es := es') (x := z) (sp := "shape") space_shp
      obtain ⟨a, xs, rfl, sa, ra⟩ := hex.tup_inv
      have hxl : xs.length = es'.length := by rw [ra.length, ends_len]
      refine ⟨_, rfl, a, rfl, ⟨_, sa⟩, fun D hD => ?_⟩
      refine lc_tup (xs := xs) (fun j H'' => Sm H' H'' ∧ ∃ acc : List V, H'' D = some (.lst acc) ∧ RpAll K H'' acc (En.ds ((es'.take j).filter fun e => decide (e.tag = ("shape" : Str)) && decide (e.name = z)))) ⟨Sm.new hD, [], upd_same, by simp; exact .nil⟩ ?_ ?_ ?_
      · rintro j H'' _ ⟨s3, _⟩
        exact (KT.same s3).sqt sa
      · rintro j v H'' hv ⟨s3, acc, eD, hacc⟩
        have kt3 := KT.same s3
        obtain ⟨en, e1, ren⟩ := ends_get (ra.on kt3) hv
        obtain ⟨b, ws, rfl, sb⟩ := en_inv ren
        have es1 : (es'.take (j + 1)).filter (fun e => decide (e.tag = ("shape" : Str)) && decide (e.name = z)) = ((es'.take j).filter fun e => decide (e.tag = ("shape" : Str)) && decide (e.name = z)) ++ (if (decide (en.tag = ("shape" : Str)) && decide (en.name = z)) = true then [en] else []) := by
          rw [take_snoc e1, List.filter_append]
          congr 1
          cases c0 : (decide (en.tag = ("shape" : Str)) && decide (en.name = z)) <;> simp [c0]
        have al : acc.length ≤ 60 := by
          rw [hacc.length, ends_len]
          exact Nat.le_trans (List.length_filter_le _ _) (by rw [List.length_take]; omega)
        refine ⟨rfl, ?_⟩
        refine ⟨_, rfl, b, _, _, _, rfl, rfl, sb, at0, rfl, _, rfl, ?_⟩
        rw [dec_s]
        by_cases c1 : en.tag = ("shape" : Str)
        · rw [decide_eq_true c1]
          refine iteT (B := _) ?_
          refine ⟨_, rfl, b, _, _, _, rfl, rfl, sb, at1, _, rfl, _, rfl, c, _, _, _, rfl, rfl, kt3.sqt sc, at_end ev,rfl, _, rfl, ?_⟩
          rw [dec_s]
          by_cases c2 : en.name = z
          · rw [decide_eq_true c2]
            refine iteT (B := _) ?_
            have ktu : KT H'' (upd H'' D (.lst (acc ++ [.ref b]))) := KT.upd_lst (NT.lst eD)
            refine ⟨_, rfl, acc, eD, small_lt (by omega), s3.upd hD, acc ++ [.ref b], upd_same, ?_⟩
            rw [es1, if_pos (by rw [decide_eq_true c1, decide_eq_true c2]; rfl)]
            exact ends_app (hacc.on ktu) (.cons (ren.on ktu) .nil)
          · rw [decide_eq_false c2]
            refine iteF (A := _) ⟨s3, acc, eD, ?_⟩
            rw [es1, if_neg (by rw [decide_eq_false c2, Bool.and_false]; decide), List.append_nil]
            exact hacc
        · rw [decide_eq_false c1]
          refine iteF (A := _) ?_
          refine iteF (A := _) ⟨s3, acc, eD, ?_⟩
          rw [es1, if_neg (by rw [decide_eq_false c1, Bool.false_and]; decide), List.append_nil]
          exact hacc
      · rintro H2 ⟨s3, acc, eD, hacc⟩
        rw [List.take_of_length_le (by omega)] at hacc
        cases e1 : lastE es' "shape" z with
        | none =>
          rw [e1] at lf el
          have e0 := List.getLast?_eq_none_iff.mp lf
          rw [e0] at hacc
          have ea := hacc.nil_inv
          subst ea
          refine ⟨_, rfl, D, [], rfl, .inl (SqL.of eD), _, _, rfl, rfl, _, rfl, iteF (A := _) ?_⟩
          refine k _ H2 (s02.sm s3) ?_
          rw [el]
          exact .non
        | some en =>
          rw [e1] at lf el
          obtain ⟨ys', ey⟩ := List.getLast?_eq_some_iff.mp lf
          rw [ey, ends_map, List.map_append, ← ends_map] at hacc
          obtain ⟨acc', v, rfl, _, hv2⟩ := snoc_inv (ds := En.ds ys') hacc
          refine ⟨_, rfl, D, _, rfl, .inl (SqL.of eD), _, _, rfl, rfl, _, rfl, ?_⟩
          rw [decide_eq_true (show (0 : Int) < ((acc' ++ [v]).length : Nat) by rw [List.length_append]; simp only [List.length_cons, List.length_nil]; omega)]
          refine iteT (B := _) ?_
          refine ⟨_, rfl, _, rfl, D, _, _, _, rfl, rfl, SqL.of eD, atI_last _ _, k _ H2 (s02.sm s3) ?_⟩
          rw [el]
          exact hv2
end
end K87

set_option Elab.async false
set_option maxRecDepth 100000
set_option linter.all false
set_option maxHeartbeats 40000000
namespace K87
open PySem L2 GD AG RG
section
variable {P : Program} {w : World} {K : PySem.W.Frag} {mg : Str → Option Value} {base : Heap} {A : Adr}
theorem c_depth (s : Int) (k : Nat) : (Sh.c s (vars k)).d.depth ≤ 60 := by
  have h : ∀ l : List Sh, (∀ s ∈ l, ∃ n, s = Sh.v n) → PyData.depthAll (Sh.ds l) ≤ 1 := by
    intro l
    induction l with
    | nil => intro _; simp [Sh.ds, PyData.depthAll]
    | cons a r ih =>
      intro h
      obtain ⟨n, rfl⟩ := h a (by simp)
      have := ih fun s m => h s (by simp [m])
      simp only [Sh.ds, Sh.d, PyData.depthAll, PyData.depth]
      exact Nat.max_le.mpr ⟨by simp, this⟩
  have := h (vars k) fun s m => by
    unfold vars at m
    obtain ⟨n, _, rfl⟩ := List.mem_map.mp m
    exact ⟨_, rfl⟩
  simp only [Sh.d, PyData.depth, PyData.depthAll, Nat.zero_max, Nat.max_zero]
  omega
theorem isNm_none {N : List En} {m : Str} {n : Nat} {sh : Sh} {p : List Str} (h : stampOf (.shp m n sh) = none) : isNm N (.shp m n sh) p = false := by
  unfold isNm
  rw [h]
theorem isNm_some {N : List En} {m : Str} {n : Nat} {sh : Sh} {p : List Str} {st : Int} (h : stampOf (.shp m n sh) = some st) : isNm N (.shp m n sh) p = (match (paths N []).find? (isStamp N st) with
    | none => false
    | some q => PyData.eqv (pathD q.1) (pathD p)) := by
  unfold isNm
  rw [h]
  dsimp only
  unfold stampPath
  cases (paths N []).find? (isStamp N st) <;> rfl
def spIsNm (K : PySem.W.Frag) : Sp := fun vs H Q _ => ∃ (nm x y : V) (N : List En) (p : List Str) (m : Str) (n : Nat) (sh : Sh), vs = [nm, x, y] ∧ EArg K H nm y N p ∧ Rp K H x (En.shp m n sh).d ∧ n ≤ 2 ∧ ∀ (H' : Hp), Sm H H' → Q (.bl (isNm N (.shp m n sh) p)) H'
theorem ok_isnm (T : Txt K mg A) : FnOk P w K mg base CX0 6 A.f__law_is_name A.d__law_is_name ["names", "entry", "path"] (spIsNm K) := by
  have G__law_paths : FnOk P w K mg base CX0 5 A.f__law_paths A.d__law_paths _ _ := ok_lpaths T 3
  have G__law_found : FnOk P w K mg base CX0 1 A.f__law_found A.d__law_found _ _ := ok_found T
  refine T.F__law_is_name.ok (k := 5) sc__law_is_name (fun vs H Q E h => ?_) (fun cdv Ar outer s H vs Q E hr h => ?_)
  · obtain ⟨nm, x, y, N, p, m, n, sh, rfl, _⟩ := h
    rfl
  · obtain ⟨nm, x, y, N, p, m, n, sh, rfl, hA, hx, hn, k⟩ := h
    refine ⟨_, (pss_cons (ps_set (i := 3) sc__law_is_name.nd rfl (Or.inl rfl) (pe_callTy call_tuple_of (by rfl) T.n_tuple (by decide +kernel) (pa_cons (pe_lc (own := [("k", 7)]) (g := gName 7) (tt := tYes) rfl sc__law_is_name.nd (pi_range1 rfl T.n_range (pa_cons (pe_ix (ixt (K := K) rfl) (pv 1) pe_int (fun _ _ => rfl)) pa_nil)) (blkOk_by (N := N__law_is_name) (sc := defScope s__law_is_name) (by decide +kernel)) (fun _ _ _ _ _ => (pg_name (i := 7) sc__law_is_name.nd rfl (Or.inl rfl))) (fun _ _ _ _ _ => pts_nil) (fun _ _ _ _ _ => (pe_tup (pa_cons pe_str (pa_cons (pv 7) pa_nil))))) pa_nil))) (pss_cons (ps_if (PW.pt (pw_or (pt_cmpR op_ne (pe_ix (ixt (K := K) rfl) (pe_ix (ixt (K := K) rfl) (pv 1) pe_int (fun _ _ => rfl)) pe_int (fun _ _ => rfl)) pe_str (nomark _)) (pw_or1 (pt_cmpR (op_neS hr.units) (pe_ix (ixt (K := K) rfl) (pe_ix (ixt (K := K) rfl) (pv 1) pe_int (fun _ _ => rfl)) pe_int (fun _ _ => rfl)) (pv 3) (nomark _))))) (pss_one (ps_ret pe_bl)) pss_nil) (pss_cons (ps_for PassesOwn.never rfl (pi_list (pe_call G__law_paths (hr.mono (by first | decide | omega)) rfl T.g__law_paths T.F__law_paths.kp T.b__law_paths .nil pass0 (pa_cons (pv 0) (pa_cons (pe_tup pa_nil) pa_nil)))) (pg_tup rfl (pgs_cons (pg_name (i := 4) sc__law_is_name.nd rfl (Or.inl rfl)) (pgs_cons (pg_name (i := 5) sc__law_is_name.nd rfl (Or.inl rfl)) pgs_nil))) (pss_cons (ps_set (i := 6) sc__law_is_name.nd rfl (Or.inl rfl) (pe_callTy call_tuple_of (by rfl) T.n_tuple (by decide +kernel) (pa_cons (pe_lc (own := [("k", 7)]) (g := gName 7) (tt := tYes) rfl sc__law_is_name.nd (pi_range1 rfl T.n_range (pa_cons (pe_ix (ixt (K := K) rfl) (pv 5) pe_int (fun _ _ => rfl)) pa_nil)) (blkOk_by (N := N__law_is_name) (sc := defScope s__law_is_name) (by decide +kernel)) (fun _ _ _ _ _ => (pg_name (i := 7) sc__law_is_name.nd rfl (Or.inl rfl))) (fun _ _ _ _ _ => pts_nil) (fun _ _ _ _ _ => (pe_tup (pa_cons pe_str (pa_cons (pv 7) pa_nil))))) pa_nil))) (pss_one (ps_if (PW.pt (pw_and (pt_cmpR (op_eqS hr.units) (pe_ix (ixt (K := K) rfl) (pv 5) pe_int (fun _ _ => rfl)) (pe_tup (pa_cons pe_str (pa_cons (pe_ix (ixt (K := K) rfl) (pe_ix (ixt (K := K) rfl) (pv 1) pe_int (fun _ _ => rfl)) pe_int (fun _ _ => rfl)) (pa_cons (pv 6) pa_nil)))) (nomark _)) (pw_and1 (pt_cmpR (op_eqS hr.units) (pe_call G__law_found (hr.mono (by first | decide | omega)) rfl T.g__law_found T.F__law_found.kp T.b__law_found .nil pass0 (pa_cons (pv 0) (pa_cons (pv 4) pa_nil))) (pv 5) (nomark _))))) (pss_one (ps_ret (pe_cmpR (op_eqS hr.units) (pv 4) (pv 2) (nomark _)))) pss_nil)))) (pss_one (ps_ret pe_bl))))), ?_⟩
    obtain ⟨a, v3, rfl, sa, h3, hm⟩ := shp_inv hx
    -- tuple([('v', k) for k in range(n)])
    refine ⟨_, rfl, a, _, _, _, rfl, rfl, sa, at2, (n : Int), rfl, by omega, by omega, fun D hD => ?_⟩
    refine lc_range (lo := 0) (n := (n : Int).toNat) (fun i H' => Sm H H' ∧ ∃ acc : List V, acc.length = i ∧ H' D = some (.lst acc) ∧ RpAll K H' acc (Sh.ds (vars i))) ?_ ?_ ?_
    · exact ⟨Sm.new hD, [], rfl, upd_same, .nil⟩
    · rintro i H' hi ⟨s1, acc, hal, hacc, hra⟩
      refine ⟨rfl, tYes_do ?_⟩
      refine ⟨_, rfl, (show 2 ≤ sizeLine by decide), fun t ht => ?_⟩
      have ea : (upd H' t (.tup [.str "v", .int (0 + (i : Int))])) D = some (.lst acc) := by rw [upd_ne (ne_of_none hacc ht)]; exact hacc
      have kt1 := KT.upd_new (o := .tup [.str "v", .int (0 + (i : Int))]) ht
      have kt2 : KT (upd H' t (.tup [.str "v", .int (0 + (i : Int))])) (upd (upd H' t (.tup [.str "v", .int (0 + (i : Int))])) D (.lst (acc ++ [.ref t]))) := KT.upd_lst (NT.lst ea)
      refine ⟨acc, ea, small_lt (by omega), (s1.on ht).upd hD, acc ++ [.ref t], by simp [hal], upd_same, ?_⟩
      rw [vars_succ, ds_map, List.map_append, ← ds_map]
      refine RpAll.app ((hra.on kt1).on kt2) (.cons ?_ .nil)
      simp only [Sh.d]
      refine Rp.on (Rp.mk upd_same (.cons (.str _ (by decide +kernel)) (.cons ?_ .nil))) kt2
      rw [Int.zero_add]
      exact .int _
    · rintro H' ⟨s1, acc, hal, hacc, hra⟩
      rw [Int.toNat_natCast] at hra
      refine ⟨D, _, rfl, .inl ⟨SqL.of hacc, fun t ht => ?_⟩⟩
      have s2 : Sm H (upd H' t (.tup acc)) := s1.on ht
      have rt : Rp K (upd H' t (.tup acc)) (.ref t) (.tuple (Sh.ds (vars n))) := Rp.mk upd_same (hra.on (KT.upd_new ht))
      generalize (upd H' t (.tup acc)) = H2 at s2 rt ⊢
      have sa2 := (KT.same s2).sqt sa
      have h32 := h3.on (KT.same s2)
      rcases sh_tag h32 with ⟨b, st, v2, l, rfl, rfl, sb, hl⟩ | ⟨hne, b, tg, ws, rfl, sb, nt⟩
      · refine ⟨_, rfl, a, _, _, _, rfl, rfl, sa2, at3, b, _, _, _, rfl, rfl, sb, at0, rfl, _, rfl, iteN (by decide +kernel) ?_⟩
        refine ⟨_, rfl, a, _, _, _, rfl, rfl, sa2, at3, b, _, _, _, rfl, rfl, sb, at2, _, rfl, _, _, hl, rt, vars_depth n, _, rfl, ?_⟩
        cases c : PyData.eqv (.tuple (Sh.ds l)) (.tuple (Sh.ds (vars n))) with
        | false =>
          refine iteT (B := _) ?_
          have := k _ s2
          rw [isNm_none (by simp only [stampOf, c]; rfl)] at this
          exact this
        | true =>
          refine iteF (A := _) ?_
          have est : stampOf (.shp m n (.c st l)) = some st := by simp only [stampOf, c]; rfl
          refine ⟨_, rfl, Nat.zero_le _, fun t0 ht0 => ?_⟩
          have S0' : Sm H2 (upd H2 t0 (.tup [])) := Sm.new ht0
          have rt0 : Rp K (upd H2 t0 (.tup [])) (.ref t0) (pathD []) := Rp.mk upd_same .nil
          have S0 : Sm H (upd H2 t0 (.tup [])) := s2.on ht0
          refine ⟨nm, .ref t0, N, [], rfl, hA.nm.rp.on (KT.same S0), rt0, hA.nm.ok.wf, hA.nm.ok.dep, hA.nm.ok.len, by simp, by omega, fun q ys H3 s3 eq hys => ⟨q, rfl, ⟨_, SqL.of eq⟩, ?_⟩⟩
          have S3 : Sm H H3 := S0.sm s3
          have hyl : ys.length = (paths N []).length := by rw [hys.length, List.length_map]
          refine for_list (xs := ys) (fun i σ' H' => ∃ (o4 o5 o6 : Option V), σ' = [some nm, some (.ref a), some y, some (.ref t), o4, o5, o6, none] ∧ Sm H3 H' ∧ ((paths N []).take i).find? (isStamp N st) = none) ?_ ?_ ?_ ?_
          · exact ⟨none, none, none, rfl, Sm.refl', by simp⟩
          · rintro i σ' H' _ ⟨_, _, _, _, s4, _⟩
            exact SqL.of (s4 _ _ eq)
          · rintro i v σ6 H6 hv ⟨o4, o5, o6, rfl, s4, hf⟩
            obtain ⟨⟨pp, e⟩, e1, rq⟩ := row_get hys hv
            obtain ⟨c0, x5, y5, rfl, sc0, hx5, hy5⟩ := pair_inv (rq.on (KT.same s4))
            have row := hA.nm.ok.rows _ (List.mem_of_getElem? e1)
            refine ⟨c0, _, rfl, sc0, rfl, _, _, rfl, _, _, rfl, rfl, ?_⟩
            obtain ⟨m5, n5, sh5, e2⟩ := row.shp
            have wq := row.wf
            dsimp only at e2 wq hx5 hy5
            subst e2
            have hn5 : n5 ≤ 2 := by
              simp only [En.wf, Bool.and_eq_true, decide_eq_true_eq] at wq
              exact wq.1.2
            obtain ⟨a5, v5, rfl, sa5, h5, _⟩ := shp_inv hy5
            refine ⟨_, rfl, a5, _, _, _, rfl, rfl, sa5, at2, (n5 : Int), rfl, by omega, by omega, fun D hD => ?_⟩
            refine lc_range (lo := 0) (n := (n5 : Int).toNat) (fun i H' => Sm H6 H' ∧ ∃ acc : List V, acc.length = i ∧ H' D = some (.lst acc) ∧ RpAll K H' acc (Sh.ds (vars i))) ?_ ?_ ?_
            · exact ⟨Sm.new hD, [], rfl, upd_same, .nil⟩
            · rintro i H' hi ⟨s1, acc, hal, hacc, hra⟩
              refine ⟨rfl, tYes_do ?_⟩
              refine ⟨_, rfl, (show 2 ≤ sizeLine by decide), fun t ht => ?_⟩
              have ea : (upd H' t (.tup [.str "v", .int (0 + (i : Int))])) D = some (.lst acc) := by rw [upd_ne (ne_of_none hacc ht)]; exact hacc
              have kt1 := KT.upd_new (o := .tup [.str "v", .int (0 + (i : Int))]) ht
              have kt2 : KT (upd H' t (.tup [.str "v", .int (0 + (i : Int))])) (upd (upd H' t (.tup [.str "v", .int (0 + (i : Int))])) D (.lst (acc ++ [.ref t]))) := KT.upd_lst (NT.lst ea)
              refine ⟨acc, ea, small_lt (by omega), (s1.on ht).upd hD, acc ++ [.ref t], by simp [hal], upd_same, ?_⟩
              rw [vars_succ, ds_map, List.map_append, ← ds_map]
              refine RpAll.app ((hra.on kt1).on kt2) (.cons ?_ .nil)
              simp only [Sh.d]
              refine Rp.on (Rp.mk upd_same (.cons (.str _ (by decide +kernel)) (.cons ?_ .nil))) kt2
              rw [Int.zero_add]
              exact .int _
            · rintro H' ⟨s1, acc, hal, hacc, hra⟩
              rw [Int.toNat_natCast] at hra
              refine ⟨D, _, rfl, .inl ⟨SqL.of hacc, fun t ht => ?_⟩⟩
              have s2 : Sm H6 (upd H' t (.tup acc)) := s1.on ht
              have rt : Rp K (upd H' t (.tup acc)) (.ref t) (.tuple (Sh.ds (vars n5))) := Rp.mk upd_same (hra.on (KT.upd_new ht))
              generalize (upd H' t (.tup acc)) = H2 at s2 rt ⊢
              have kt5 := KT.same s2
              have S6 : Sm H H6 := S3.sm s4
              have ktm : KT _ H6 := KT.same (Sm.sm S0' (s3.sm s4))
              have sa6 := (KT.same (S6.sm s2)).sqt sa
              have sb6 := kt5.sqt (ktm.sqt sb)
              refine ⟨_, rfl, a5, _, _, _, rfl, rfl, kt5.sqt sa5, at3, _, rfl, a, _, _, _, rfl, rfl, sa6, at3, b, _, _, _, rfl, rfl, sb6, at1, _, rfl, (show 3 ≤ sizeLine by decide), fun u hu => ?_⟩
              have ktu := KT.upd_new (o := .tup [.str "c", .int st, .ref t]) hu
              have ru : Rp K (upd H2 u (.tup [.str "c", .int st, .ref t])) (.ref u) (Sh.c st (vars n5)).d := by
                simp only [Sh.d]
                exact Rp.mk upd_same (.cons (.str _ (by decide +kernel)) (.cons (.int _) (.cons (rt.on ktu) .nil)))
              have s7 : Sm H6 (upd H2 u (.tup [.str "c", .int st, .ref t])) := s2.on hu
              generalize (upd H2 u (.tup [.str "c", .int st, .ref t])) = H7 at ru s7 ⊢
              refine ⟨_, _, h5.on (KT.same s7), ru, c_depth st n5, _, rfl, ?_⟩
              rw [← stampOf_eqv m5 n5 sh5 st]
              by_cases c5 : stampOf (.shp m5 n5 sh5) = some st
              · rw [decide_eq_true c5]
                refine iteT (B := _) ?_
                refine ⟨_, rfl, _, rfl, nm, x5, N, pp, rfl, hA.nm.rp.on (KT.same (S6.sm s7)), hA.nm.ok.wf, hA.nm.ok.len, hx5.on (KT.same s7), row.path.ne, fun w H8 s8 hw => ?_⟩
                refine ⟨_, rfl, _, _, hw, hy5.on (KT.same (Sm.sm s7 s8)), shp_depth wq, _, rfl, ?_⟩
                cases c6 : PyData.eqv (optD (lookE N "shape" pp)) (En.shp m5 n5 sh5).d with
                | true =>
                  refine iteT (B := _) ?_
                  have hh := find_hit hf e1 (show isStamp N st (pp, .shp m5 n5 sh5) = true by unfold isStamp; simp only [c5, c6, decide_true, Bool.and_self])
                  have S8 : Sm H H8 := S6.sm (Sm.sm s7 s8)
                  refine ⟨_, rfl, _, rfl, _, _, hx5.on (KT.same (Sm.sm s7 s8)), hA.hd.on (KT.same S8), pathD_depth _, ?_⟩
                  have := k H8 S8
                  rw [isNm_some est, hh] at this
                  exact this
                | false =>
                  refine iteF (A := _) ?_
                  exact ⟨_, _, _, rfl, s4.sm (Sm.sm s7 s8), find_miss hf e1 (by unfold isStamp; simp only [c6, Bool.and_false])⟩
              · rw [decide_eq_false c5]
                refine iteF (A := _) ?_
                exact iteF (A := _) ⟨_, _, _, rfl, s4.sm s7, find_miss hf e1 (by unfold isStamp; simp only [c5, decide_false, Bool.false_and])⟩
          · rintro σ' H' ⟨o4, o5, o6, rfl, s4, hf⟩
            rw [hyl, List.take_length] at hf
            have := k H' (S3.sm s4)
            rw [isNm_some est, hf] at this
            exact this
      · refine ⟨_, rfl, a, _, _, _, rfl, rfl, sa2, at3, b, _, _, _, rfl, rfl, sb, at0, rfl, _, rfl, ?_⟩
        rw [nt]
        refine iteT (B := _) ?_
        refine iteT (B := _) ?_
        have := k _ s2
        rw [isNm_none (stampOf_none hne)] at this
        exact this
/-! ### the same lines -/
def spSameS (K : PySem.W.Frag) : Sp := fun vs H Q _ => ∃ s : Str, vs = [.str s, .str s] ∧ Q (.bl true) H
theorem ok_sameS (T : Txt K mg A) : FnOk P w K mg base CX0 2 A.f__law_same A.d__law_same ["a", "b"] (spSameS K) := by
  have G__law_same : FnOk P w K mg base CX0 (1 : Nat) A.f__law_same A.d__law_same ["a", "b"] (fun _ _ _ _ => False) := T.F__law_same.ok (k := 0) sc__law_same (fun _ _ _ _ h => h.elim) (fun _ _ _ _ _ _ _ _ _ h => h.elim)
  refine T.F__law_same.ok (k := 1) sc__law_same (fun vs H Q E h => ?_) (fun cdv Ar outer s H vs Q E hr h => ?_)
  · obtain ⟨z, rfl, _⟩ := h
    rfl
  · obtain ⟨z, rfl, k⟩ := h
    refine ⟨_, (pss_cons (ps_if (PW.pt (pw_and (pt_val (pe_callB call_isi (by rfl) T.n_isinstance (by decide +kernel) (pa_cons (pv 0) (pa_cons (pe_bltn (v := .ty "tuple") (by rfl) T.n_tuple (by decide +kernel) rfl) pa_nil))) (by intro _; rfl)) (pw_and1 (pt_val (pe_callB call_isi (by rfl) T.n_isinstance (by decide +kernel) (pa_cons (pv 1) (pa_cons (pe_bltn (v := .ty "tuple") (by rfl) T.n_tuple (by decide +kernel) rfl) pa_nil))) (by intro _; rfl))))) (pss_cons (ps_if (pt_cmpR op_ne (pe_callB call_len_seq (by rfl) T.n_len PySem.boot_len (pa_cons (pv 0) pa_nil)) (pe_callB call_len_seq (by rfl) T.n_len PySem.boot_len (pa_cons (pv 1) pa_nil)) (nomark _)) (pss_one (ps_ret pe_bl)) pss_nil) (pss_cons (ps_for PassesOwn.never rfl (pi_range1 rfl T.n_range (pa_cons (pe_callB call_len_seq (by rfl) T.n_len PySem.boot_len (pa_cons (pv 0) pa_nil)) pa_nil)) (pg_name (i := 2) sc__law_same.nd rfl (Or.inl rfl)) (pss_one (ps_if (pt_not (pt_val (pe_call G__law_same (hr.mono (by first | decide | omega)) rfl T.g__law_same T.F__law_same.kp T.b__law_same .nil pass0 (pa_cons (pe_ix (ixt (K := K) rfl) (pv 0) (pv 2) (fun _ _ => rfl)) (pa_cons (pe_ix (ixt (K := K) rfl) (pv 1) (pv 2) (fun _ _ => rfl)) pa_nil))) (by intro _; rfl))) (pss_one (ps_ret pe_bl)) pss_nil))) (pss_one (ps_ret pe_bl)))) pss_nil) (pss_cons (ps_if (PW.pt (pw_or (pt_val (pe_callB call_isi (by rfl) T.n_isinstance (by decide +kernel) (pa_cons (pv 0) (pa_cons (pe_bltn (v := .ty "bool") (by rfl) T.n_bool (by decide +kernel) rfl) pa_nil))) (by intro _; rfl)) (pw_or1 (pt_val (pe_callB call_isi (by rfl) T.n_isinstance (by decide +kernel) (pa_cons (pv 1) (pa_cons (pe_bltn (v := .ty "bool") (by rfl) T.n_bool (by decide +kernel) rfl) pa_nil))) (by intro _; rfl))))) (pss_one (ps_ret (pe_and (pe_callB call_isi (by rfl) T.n_isinstance (by decide +kernel) (pa_cons (pv 0) (pa_cons (pe_bltn (v := .ty "bool") (by rfl) T.n_bool (by decide +kernel) rfl) pa_nil))) (pe_and (pe_callB call_isi (by rfl) T.n_isinstance (by decide +kernel) (pa_cons (pv 1) (pa_cons (pe_bltn (v := .ty "bool") (by rfl) T.n_bool (by decide +kernel) rfl) pa_nil))) (pe_one (pe_cmpR op_eq (pv 0) (pv 1) (nomark _))))))) pss_nil) (pss_cons (ps_if (PW.pt (pw_and (pt_val (pe_callB call_isi (by rfl) T.n_isinstance (by decide +kernel) (pa_cons (pv 0) (pa_cons (pe_bltn (v := .ty "int") (by rfl) T.n_int (by decide +kernel) rfl) pa_nil))) (by intro _; rfl)) (pw_and1 (pt_val (pe_callB call_isi (by rfl) T.n_isinstance (by decide +kernel) (pa_cons (pv 1) (pa_cons (pe_bltn (v := .ty "int") (by rfl) T.n_int (by decide +kernel) rfl) pa_nil))) (by intro _; rfl))))) (pss_one (ps_ret (pe_cmpR op_eq (pv 0) (pv 1) (nomark _)))) pss_nil) (pss_cons (ps_if (PW.pt (pw_and (pt_val (pe_callB call_isi (by rfl) T.n_isinstance (by decide +kernel) (pa_cons (pv 0) (pa_cons (pe_bltn (v := .ty "str") (by rfl) T.n_str (by decide +kernel) rfl) pa_nil))) (by intro _; rfl)) (pw_and1 (pt_val (pe_callB call_isi (by rfl) T.n_isinstance (by decide +kernel) (pa_cons (pv 1) (pa_cons (pe_bltn (v := .ty "str") (by rfl) T.n_str (by decide +kernel) rfl) pa_nil))) (by intro _; rfl))))) (pss_one (ps_ret (pe_cmpR op_eq (pv 0) (pv 1) (nomark _)))) pss_nil) (pss_one (ps_ret (pe_and (pe_cmpR op_isN (pv 0) pe_non (nomark _)) (pe_one (pe_cmpR op_isN (pv 1) pe_non (nomark _)))))))))), ?_⟩
    have ty : TyX K H (.str z) (.type "str") := .base (.str z)
    refine ⟨_, rfl, _, _, _, _, _, rfl, .ty _, ty, kit_ty rfl, _, rfl, ?_⟩
    refine iteF (A := _) ?_
    refine iteF (A := _) ?_
    refine ⟨_, rfl, _, _, _, _, _, rfl, .ty _, ty, kit_ty rfl, _, rfl, ?_⟩
    refine iteF (A := _) ?_
    refine ⟨_, rfl, _, _, _, _, _, rfl, .ty _, ty, kit_ty rfl, _, rfl, ?_⟩
    refine iteF (A := _) ?_
    refine ⟨_, rfl, _, _, _, _, _, rfl, .ty _, ty, kit_ty rfl, _, rfl, ?_⟩
    refine iteF (A := _) ?_
    refine iteF (A := _) ?_
    refine ⟨_, rfl, _, _, _, _, _, rfl, .ty _, ty, kit_ty rfl, _, rfl, ?_⟩
    refine iteT (B := _) ?_
    refine ⟨_, rfl, _, _, _, _, _, rfl, .ty _, ty, kit_ty rfl, _, rfl, ?_⟩
    refine iteT (B := _) ?_
    refine ⟨_, rfl, _, rfl, rfl, ?_⟩
    rw [dec_s, decide_eq_true rfl]
    exact k
def spSame (K : PySem.W.Frag) : Sp := fun vs H Q _ => ∃ (a b : Addr) (L : List Str), vs = [.ref a, .ref b] ∧ H a = some (.tup (L.map V.str)) ∧ H b = some (.tup (L.map V.str)) ∧ L.length ≤ 100000 ∧ Q (.bl true) H
theorem ok_same (T : Txt K mg A) : FnOk P w K mg base CX0 3 A.f__law_same A.d__law_same ["a", "b"] (spSame K) := by
  have G__law_same : FnOk P w K mg base CX0 2 A.f__law_same A.d__law_same _ _ := ok_sameS T
  refine T.F__law_same.ok (k := 2) sc__law_same (fun vs H Q E h => ?_) (fun cdv Ar outer s H vs Q E hr h => ?_)
  · obtain ⟨a, b, L, rfl, _⟩ := h
    rfl
  · obtain ⟨a, b, L, rfl, ha, hb, hl, k⟩ := h
    refine ⟨_, (pss_cons (ps_if (PW.pt (pw_and (pt_val (pe_callB call_isi (by rfl) T.n_isinstance (by decide +kernel) (pa_cons (pv 0) (pa_cons (pe_bltn (v := .ty "tuple") (by rfl) T.n_tuple (by decide +kernel) rfl) pa_nil))) (by intro _; rfl)) (pw_and1 (pt_val (pe_callB call_isi (by rfl) T.n_isinstance (by decide +kernel) (pa_cons (pv 1) (pa_cons (pe_bltn (v := .ty "tuple") (by rfl) T.n_tuple (by decide +kernel) rfl) pa_nil))) (by intro _; rfl))))) (pss_cons (ps_if (pt_cmpR op_ne (pe_callB call_len_seq (by rfl) T.n_len PySem.boot_len (pa_cons (pv 0) pa_nil)) (pe_callB call_len_seq (by rfl) T.n_len PySem.boot_len (pa_cons (pv 1) pa_nil)) (nomark _)) (pss_one (ps_ret pe_bl)) pss_nil) (pss_cons (ps_for PassesOwn.never rfl (pi_range1 rfl T.n_range (pa_cons (pe_callB call_len_seq (by rfl) T.n_len PySem.boot_len (pa_cons (pv 0) pa_nil)) pa_nil)) (pg_name (i := 2) sc__law_same.nd rfl (Or.inl rfl)) (pss_one (ps_if (pt_not (pt_val (pe_call G__law_same (hr.mono (by first | decide | omega)) rfl T.g__law_same T.F__law_same.kp T.b__law_same .nil pass0 (pa_cons (pe_ix (ixt (K := K) rfl) (pv 0) (pv 2) (fun _ _ => rfl)) (pa_cons (pe_ix (ixt (K := K) rfl) (pv 1) (pv 2) (fun _ _ => rfl)) pa_nil))) (by intro _; rfl))) (pss_one (ps_ret pe_bl)) pss_nil))) (pss_one (ps_ret pe_bl)))) pss_nil) (pss_cons (ps_if (PW.pt (pw_or (pt_val (pe_callB call_isi (by rfl) T.n_isinstance (by decide +kernel) (pa_cons (pv 0) (pa_cons (pe_bltn (v := .ty "bool") (by rfl) T.n_bool (by decide +kernel) rfl) pa_nil))) (by intro _; rfl)) (pw_or1 (pt_val (pe_callB call_isi (by rfl) T.n_isinstance (by decide +kernel) (pa_cons (pv 1) (pa_cons (pe_bltn (v := .ty "bool") (by rfl) T.n_bool (by decide +kernel) rfl) pa_nil))) (by intro _; rfl))))) (pss_one (ps_ret (pe_and (pe_callB call_isi (by rfl) T.n_isinstance (by decide +kernel) (pa_cons (pv 0) (pa_cons (pe_bltn (v := .ty "bool") (by rfl) T.n_bool (by decide +kernel) rfl) pa_nil))) (pe_and (pe_callB call_isi (by rfl) T.n_isinstance (by decide +kernel) (pa_cons (pv 1) (pa_cons (pe_bltn (v := .ty "bool") (by rfl) T.n_bool (by decide +kernel) rfl) pa_nil))) (pe_one (pe_cmpR op_eq (pv 0) (pv 1) (nomark _))))))) pss_nil) (pss_cons (ps_if (PW.pt (pw_and (pt_val (pe_callB call_isi (by rfl) T.n_isinstance (by decide +kernel) (pa_cons (pv 0) (pa_cons (pe_bltn (v := .ty "int") (by rfl) T.n_int (by decide +kernel) rfl) pa_nil))) (by intro _; rfl)) (pw_and1 (pt_val (pe_callB call_isi (by rfl) T.n_isinstance (by decide +kernel) (pa_cons (pv 1) (pa_cons (pe_bltn (v := .ty "int") (by rfl) T.n_int (by decide +kernel) rfl) pa_nil))) (by intro _; rfl))))) (pss_one (ps_ret (pe_cmpR op_eq (pv 0) (pv 1) (nomark _)))) pss_nil) (pss_cons (ps_if (PW.pt (pw_and (pt_val (pe_callB call_isi (by rfl) T.n_isinstance (by decide +kernel) (pa_cons (pv 0) (pa_cons (pe_bltn (v := .ty "str") (by rfl) T.n_str (by decide +kernel) rfl) pa_nil))) (by intro _; rfl)) (pw_and1 (pt_val (pe_callB call_isi (by rfl) T.n_isinstance (by decide +kernel) (pa_cons (pv 1) (pa_cons (pe_bltn (v := .ty "str") (by rfl) T.n_str (by decide +kernel) rfl) pa_nil))) (by intro _; rfl))))) (pss_one (ps_ret (pe_cmpR op_eq (pv 0) (pv 1) (nomark _)))) pss_nil) (pss_one (ps_ret (pe_and (pe_cmpR op_isN (pv 0) pe_non (nomark _)) (pe_one (pe_cmpR op_isN (pv 1) pe_non (nomark _)))))))))), ?_⟩
    have ta : TyX K H (.ref a) (.type "tuple") := .base (.tup ha)
    have tb : TyX K H (.ref b) (.type "tuple") := .base (.tup hb)
    have sa : SqT K H a (L.map V.str) := .inl (Rd.of ha)
    have sb : SqT K H b (L.map V.str) := .inl (Rd.of hb)
    refine ⟨_, rfl, _, _, _, _, _, rfl, .ty _, ta, kit_ty rfl, _, rfl, ?_⟩
    refine iteT (B := _) ?_
    refine ⟨_, rfl, _, _, _, _, _, rfl, .ty _, tb, kit_ty rfl, _, rfl, ?_⟩
    refine iteT (B := _) ?_
    refine ⟨_, rfl, a, _, rfl, .inr sa, _, rfl, b, _, rfl, .inr sb, rfl, _, rfl, ?_⟩
    refine iteN (by simp) ?_
    refine ⟨_, rfl, a, _, rfl, .inr sa, _, rfl, by rw [List.length_map]; omega, by rw [List.length_map]; omega, ?_⟩
    refine for_range (lo := 0) (n := ((L.map V.str).length : Int).toNat) (fun i σ' H' => ∃ o : Option V, σ' = [some (.ref a), some (.ref b), o] ∧ H' = H) ?_ ?_ ?_
    · exact ⟨none, rfl, rfl⟩
    · rintro i σ' H' hi ⟨o, rfl, rfl⟩
      rw [Int.toNat_natCast] at hi
      have ei : (L.map V.str)[i]? = some (V.str (L[i]'(by simpa using hi))) := by rw [List.getElem?_map, List.getElem?_eq_getElem (by simpa using hi)]; rfl
      refine ⟨_, rfl, _, rfl, a, _, _, _, rfl, rfl, sa, at_k ei, _, rfl, _, rfl, b, _, _, _, rfl, rfl, sb, at_k ei, _, rfl, true, rfl, ?_⟩
      exact iteF (A := _) ⟨_, rfl, rfl⟩
    · rintro σ' H' ⟨o, rfl, rfl⟩
      exact k
end
end K87

set_option Elab.async false
set_option maxRecDepth 100000
set_option linter.all false
set_option maxHeartbeats 40000000
namespace K87
open PySem L2 GD AG RG
section
variable {P : Program} {w : World} {K : PySem.W.Frag} {mg : Str → Option Value} {base : Heap} {A : Adr}
theorem ok_llinesS (T : Txt K mg A) (n : Nat) (G : FnOk P w K mg base CX0 (n + 42) A.f__law_lines A.d__law_lines ["names", "entries", "head"] (Less (spLevel K) n)) : FnOk P w K mg base CX0 (n + 43) A.f__law_lines A.d__law_lines ["names", "entries", "head"] (spLevel K n) := by
  have G__law_lines : FnOk P w K mg base CX0 (n + 42) A.f__law_lines A.d__law_lines _ _ := G
  have G__law_kept : FnOk P w K mg base CX0 2 A.f__law_kept A.d__law_kept _ _ := ok_kept T
  have G_shape_text : FnOk P w K mg base CX0 41 A.f_shape_text A.d_shape_text _ _ := ok_shape T
  have G__law_is_name : FnOk P w K mg base CX0 6 A.f__law_is_name A.d__law_is_name _ _ := ok_isnm T
  refine T.F__law_lines.ok (k := n + 42) sc__law_lines (fun vs H Q E h => ?_) (fun cdv Ar outer s H vs Q E hr h => ?_)
  · obtain ⟨nm, x, hd, N, head, es, rfl, _⟩ := h
    rfl
  · obtain ⟨nm, x, hd, N, head, es, rfl, hA, hh, hn3, hx, hw, hdp, hlen, k⟩ := h
    refine ⟨_, (pss_cons (ps_set (i := 3) sc__law_lines.nd rfl (Or.inl rfl) (pe_lst pa_nil)) (pss_cons (ps_for PassesOwn.never rfl (pi_list (pe_call G__law_kept (hr.mono (by first | decide | omega)) rfl T.g__law_kept T.F__law_kept.kp T.b__law_kept .nil pass0 (pa_cons (pv 1) pa_nil))) (pg_name (i := 4) sc__law_lines.nd rfl (Or.inl rfl)) (pss_cons (ps_set (i := 5) sc__law_lines.nd rfl (Or.inl rfl) (pe_ix (ixt (K := K) rfl) (pv 4) pe_int (fun _ _ => rfl))) (pss_one (ps_if (pt_cmpR op_eq (pe_ix (ixt (K := K) rfl) (pv 4) pe_int (fun _ _ => rfl)) pe_str (nomark _)) (pss_one (ps_expr (pe_bm PySem.F.plainAttrs_list PySem.F.slot_list_append PySem.F.type_list_append mt_append (pv 3) (pa_cons (pe_op op_add_str (pe_op op_add_str (pe_op op_add_str pe_str (pv 5)) pe_str) (pe_call G_shape_text (hr.mono (by first | decide | omega)) rfl T.g_shape_text T.F_shape_text.kp T.b_shape_text .nil pass0 (pa_cons (pv 0) (pa_cons (pe_ix (ixt (K := K) rfl) (pe_ix (ixt (K := K) rfl) (pv 4) pe_int (fun _ _ => rfl)) pe_int (fun _ _ => rfl)) pa_nil)))) pa_nil)))) (pss_one (ps_if (pt_cmpR op_eq (pe_ix (ixt (K := K) rfl) (pv 4) pe_int (fun _ _ => rfl)) pe_str (nomark _)) (pss_cons (ps_set (i := 6) sc__law_lines.nd rfl (Or.inl rfl) (pe_ifExp (pt_cmpR op_isN (pe_ix (ixt (K := K) rfl) (pv 4) pe_int (fun _ _ => rfl)) pe_non (nomark _)) (pe_ix (ixt (K := K) rfl) (pv 4) pe_int (fun _ _ => rfl)) (pe_tup (pa_cons pe_str (pa_cons (pe_ix (ixt (K := K) rfl) (pv 4) pe_int (fun _ _ => rfl)) (pa_cons (pe_ix (ixt (K := K) rfl) (pv 4) pe_int (fun _ _ => rfl)) pa_nil)))))) (pss_one (ps_expr (pe_bm PySem.F.plainAttrs_list PySem.F.slot_list_append PySem.F.type_list_append mt_append (pv 3) (pa_cons (pe_op op_add_str (pe_op op_add_str (pe_op op_add_str pe_str (pv 5)) pe_str) (pe_call G_shape_text (hr.mono (by first | decide | omega)) rfl T.g_shape_text T.F_shape_text.kp T.b_shape_text .nil pass0 (pa_cons (pv 0) (pa_cons (pv 6) pa_nil)))) pa_nil))))) (pss_one (ps_if (pt_cmpR op_eq (pe_ix (ixt (K := K) rfl) (pv 4) pe_int (fun _ _ => rfl)) pe_str (nomark _)) (pss_one (ps_expr (pe_bm PySem.F.plainAttrs_list PySem.F.slot_list_append PySem.F.type_list_append mt_append (pv 3) (pa_cons (pe_op op_add_str (pe_op op_add_str pe_str (pv 5)) (pe_ifExp (pt_cmpR op_isN (pe_ix (ixt (K := K) rfl) (pv 4) pe_int (fun _ _ => rfl)) pe_non (nomark _)) pe_str (pe_op op_add_str pe_str (pe_call G_shape_text (hr.mono (by first | decide | omega)) rfl T.g_shape_text T.F_shape_text.kp T.b_shape_text .nil pass0 (pa_cons (pv 0) (pa_cons (pe_ix (ixt (K := K) rfl) (pv 4) pe_int (fun _ _ => rfl)) pa_nil)))))) pa_nil)))) (pss_one (ps_if (pt_cmpR op_eq (pe_ix (ixt (K := K) rfl) (pv 4) pe_int (fun _ _ => rfl)) pe_str (nomark _)) (pss_cons (ps_set (i := 7) sc__law_lines.nd rfl (Or.inl rfl) (pe_op op_add_str (pe_ix (ixl (K := K) rfl) (pe_lst (pa_cons pe_str (pa_cons pe_str (pa_cons pe_str pa_nil)))) (pe_ix (ixt (K := K) rfl) (pv 4) pe_int (fun _ _ => rfl)) (fun _ _ => rfl)) (pv 5))) (pss_one (ps_if (pt_val (pe_call G__law_is_name (hr.mono (by first | decide | omega)) rfl T.g__law_is_name T.F__law_is_name.kp T.b__law_is_name .nil pass0 (pa_cons (pv 0) (pa_cons (pv 4) (pa_cons (pe_op op_catA (pv 2) (pe_tup (pa_cons (pv 5) pa_nil))) pa_nil)))) (by intro _; rfl)) (pss_one (ps_expr (pe_bm PySem.F.plainAttrs_list PySem.F.slot_list_append PySem.F.type_list_append mt_append (pv 3) (pa_cons (pe_op op_add_str pe_str (pv 7)) pa_nil)))) (pss_one (ps_expr (pe_bm PySem.F.plainAttrs_list PySem.F.slot_list_append PySem.F.type_list_append mt_append (pv 3) (pa_cons (pe_op op_add_str (pe_op op_add_str (pe_op op_add_str pe_str (pv 7)) pe_str) (pe_call G_shape_text (hr.mono (by first | decide | omega)) rfl T.g_shape_text T.F_shape_text.kp T.b_shape_text .nil pass0 (pa_cons (pv 0) (pa_cons (pe_ix (ixt (K := K) rfl) (pv 4) pe_int (fun _ _ => rfl)) pa_nil)))) pa_nil))))))) (pss_one (ps_if (pt_cmpR op_eq (pe_ix (ixt (K := K) rfl) (pv 4) pe_int (fun _ _ => rfl)) pe_str (nomark _)) (pss_cons (ps_expr (pe_bm PySem.F.plainAttrs_list PySem.F.slot_list_append PySem.F.type_list_append mt_append (pv 3) (pa_cons (pe_op op_add_str (pe_op op_add_str pe_str (pv 5)) pe_str) pa_nil))) (pss_one (ps_set (i := 3) sc__law_lines.nd rfl (Or.inl rfl) (pe_op op_cat (pe_op op_cat (pv 3) (pe_lc (own := [("line", 8)]) (g := gName 8) (tt := tYes) rfl sc__law_lines.nd (pi_list (pe_call G__law_lines (hr.mono (by first | decide | omega)) rfl T.g__law_lines T.F__law_lines.kp T.b__law_lines .nil pass0 (pa_cons (pv 0) (pa_cons (pe_ix (ixt (K := K) rfl) (pv 4) pe_int (fun _ _ => rfl)) (pa_cons (pe_op op_catA (pv 2) (pe_tup (pa_cons (pv 5) pa_nil))) pa_nil))))) (blkOk_by (N := N__law_lines) (sc := defScope s__law_lines) (by decide +kernel)) (fun _ _ _ _ _ => (pg_name (i := 8) sc__law_lines.nd rfl (Or.inl rfl))) (fun _ _ _ _ _ => pts_nil) (fun _ _ _ _ _ => (pe_op op_add_str pe_str (pv 8))))) (pe_lst (pa_cons pe_str pa_nil)))))) (pss_one (ps_expr (pe_bm PySem.F.plainAttrs_list PySem.F.slot_list_append PySem.F.type_list_append mt_append (pv 3) (pa_cons (pe_op op_add_str (pe_op op_add_str (pe_ix (ixt (K := K) rfl) (pv 4) pe_int (fun _ _ => rfl)) pe_str) (pv 5)) pa_nil)))))))))))))))) (pss_one (ps_ret (pv 3))))), ?_⟩
    obtain ⟨a, xs, rfl, sa, ra⟩ := hx.tup_inv
    have h10 : 10 ^ n ≤ 10 ^ 3 := Nat.pow_le_pow_right (by decide) (by omega)
    refine ⟨Nat.zero_le _, fun f hf => ?_⟩
    have S0 : Sm H (upd H f (.lst [])) := Sm.new hf
    have kt0 := KT.same S0
    have ef0 : (upd H f (.lst [])) f = some (.lst []) := upd_same
    have sa0 := kt0.sqt sa
    have ra0 := ra.on kt0
    generalize (upd H f (.lst [])) = H0 at S0 ef0 sa0 ra0 ⊢
    refine ⟨_, rfl, a, xs, es, rfl, .inr sa0, ra0, by omega, fun q ys H1 hq s1 eq hys => ⟨q, rfl, ⟨_, SqL.of eq⟩, ?_⟩⟩
    have hqf : q ≠ f := fun z => by rw [z, ef0] at hq; cases hq
    have hyl : ys.length = (kept es).length := by rw [hys.length, ends_len]
    refine for_list (xs := ys) (fun i σ' H' => ∃ (g : Addr) (o4 o5 o6 o7 o8 : Option V), σ' = [some nm, some (.ref a), some hd, some (.ref g), o4, o5, o6, o7, o8] ∧ Sm H H' ∧ H g = none ∧ q ≠ g ∧ H' q = some (.lst ys) ∧ RpAll K H' ys (En.ds (kept es)) ∧ H' g = some (.lst ((lvTo N n head ((kept es).take i)).map V.str))) ?_ ?_ ?_ ?_
    · exact ⟨f, none, none, none, none, none, rfl, S0.sm s1, hf, hqf, eq, hys, s1 _ _ ef0⟩
    · rintro i σ' H' _ ⟨_, _, _, _, _, _, _, _, _, _, h, _⟩
      exact SqL.of h
    · rintro i v σ' H' hv ⟨g, o4, o5, o6, o7, o8, rfl, S, hg, hqg, eq, hys, eg⟩
      obtain ⟨e, e1, hx⟩ := ends_get hys hv
      have me := List.mem_of_getElem? e1
      have wk : ∀ e ∈ kept es, e.wf = true := fun e m => wfs_mem hw (keptTo_mem m)
      have hw1 := wk e me
      have hd1 : e.dep ≤ n := Nat.le_trans (endeps_mem (keptTo_mem me)) hdp
      have nl := name_len hw1
      have hkl : (kept es).length ≤ 8 := Nat.le_trans (keptTo_len es _) hlen
      have hcap := (lv_ok hA.nm.ok n head (l := (kept es).take (i + 1)) (fun e m => wk e (List.mem_of_mem_take m)) (by rw [List.length_take]; omega)).1
      have e5 : lvTo N n head ((kept es).take (i + 1)) = lvTo N n head ((kept es).take i) ++ entLines N n head e := by rw [take_snoc e1, lvTo_app, lvTo_one]
      have hcap0 := hcap
      rw [e5, List.length_append] at hcap0
      have olen : ((lvTo N n head ((kept es).take i)).map V.str).length < 100000 := by rw [List.length_map]; omega
      have fin : ∀ (H2 : Hp) (L : Str), Sm H' H2 → entLines N n head e = [L] → (Sm H (upd H2 g (.lst ((lvTo N n head ((kept es).take i)).map V.str ++ [.str L]))) ∧ H g = none ∧ q ≠ g ∧ (upd H2 g (.lst ((lvTo N n head ((kept es).take i)).map V.str ++ [.str L]))) q = some (.lst ys) ∧ RpAll K (upd H2 g (.lst ((lvTo N n head ((kept es).take i)).map V.str ++ [.str L]))) ys (En.ds (kept es)) ∧ (upd H2 g (.lst ((lvTo N n head ((kept es).take i)).map V.str ++ [.str L]))) g = some (.lst ((lvTo N n head ((kept es).take (i + 1))).map V.str))) := fun H2 L s2 el => by
        refine ⟨(S.sm s2).upd hg, hg, hqg, by rw [upd_ne hqg]; exact s2 _ _ eq, ?_, by rw [upd_same, e5, el, List.map_append]; rfl⟩
        have kt : KT H2 (upd H2 g (.lst ((lvTo N n head ((kept es).take i)).map V.str ++ [.str L]))) := KT.upd_lst (NT.lst (s2 _ _ eg))
        exact (hys.on (KT.same s2)).on kt
      cases e with
      | val m c sh =>
        obtain ⟨b, b2, v, rfl, sb, sb2, hv⟩ := val_inv hx
        simp only [En.name] at nl
        simp only [En.wf, Bool.and_eq_true, decide_eq_true_eq] at hw1
        have hf := fine_of hw1.2
        have tl := text_cap hA.nm.ok hf.st (by have := hf.sz; omega)
        refine ⟨_, rfl, b, _, _, _, rfl, rfl, sb, at1, ?_⟩
        refine ⟨_, rfl, b, _, _, _, rfl, rfl, sb, at0, rfl, _, rfl, iteY (by decide +kernel) ?_⟩
        refine ⟨_, rfl, .inl ⟨rfl, _, SqL.of eg⟩, _, rfl, _, _, rfl, rfl, ?_, _, _, rfl, rfl, ?_, _, rfl, _, rfl, b, _, _, _, rfl, rfl, sb, at2, b2, _, _, _, rfl, rfl, sb2, at1, nm, v, N, sh, rfl, hA.nm.on S, hv, hf, fun H2 s2 => ⟨_, _, rfl, rfl, ?_, g, _, _, rfl, rfl, s2 _ _ eg, small_lt olen, ?_⟩⟩
        · rw [lit "val " 4]; exact small_le (by omega)
        · rw [slen, lit "val " 4, lit " : " 3]; exact small_le (by omega)
        · rw [slen, slen, lit "val " 4, lit " : " 3]; exact small_le (by omega)
        · exact ⟨g, _, _, _, _, _, rfl, fin H2 _ s2 (by cases n <;> simp only [entLines])⟩
      | con m ar arg res i1 fam =>
        simp only [En.name] at nl
        simp only [En.wf, Bool.and_eq_true, decide_eq_true_eq] at hw1
        have hf := fine_of hw1.1.2
        have tl := text_cap hA.nm.ok hf.st (by have := hf.sz; omega)
        have hx0 := hx
        simp only [En.d] at hx
        obtain ⟨b, zs, rfl, sb, rb⟩ := hx.tup_inv
        obtain ⟨v0, w1, rfl, h0, rb⟩ := rb.cons_inv
        obtain ⟨v1, w1, rfl, h1, rb⟩ := rb.cons_inv
        obtain ⟨v2, w1, rfl, h2, rb⟩ := rb.cons_inv
        obtain ⟨v3, w1, rfl, h3, rb⟩ := rb.cons_inv
        obtain ⟨v4, w1, rfl, h4, rb⟩ := rb.cons_inv
        have e0 := h0.str_inv
        have e1' := h1.str_inv
        subst e0 e1'
        refine ⟨_, rfl, b, _, _, _, rfl, rfl, sb, at1, ?_⟩
        refine ⟨_, rfl, b, _, _, _, rfl, rfl, sb, at0, rfl, _, rfl, iteN (by decide +kernel) ?_⟩
        refine ⟨_, rfl, b, _, _, _, rfl, rfl, sb, at0, rfl, _, rfl, iteY (by decide +kernel) ?_⟩
        rcases arg_cases h3 with ⟨rfl, rfl⟩ | ⟨s0, c0, rfl, rfl, hs0⟩
        · refine ⟨_, rfl, b, _, _, _, rfl, rfl, sb, at3, rfl, _, rfl, iteY rfl ?_⟩
          refine ⟨_, rfl, b, _, _, _, rfl, rfl, sb, atI_nat (j := 4) rfl, ?_⟩
          have sr : Sm H' H' := Sm.refl'
          refine ⟨_, rfl, .inl ⟨rfl, _, SqL.of (sr _ _ eg)⟩, _, rfl, _, _, rfl, rfl, ?_, _, _, rfl, rfl, ?_, _, rfl, _, rfl, nm, v4, N, (conS none res), rfl, hA.nm.on (Sm.sm S sr), h4, hf, fun H2 s2 => ⟨_, _, rfl, rfl, ?_, g, _, _, rfl, rfl, (Sm.sm sr s2) _ _ eg, small_lt olen, ?_⟩⟩
          · rw [lit "con " 4]; exact small_le (by omega)
          · rw [slen, lit "con " 4, lit " : " 3]; exact small_le (by omega)
          · rw [slen, slen, lit "con " 4, lit " : " 3]; exact small_le (by omega)
          · exact ⟨g, _, _, _, _, _, rfl, fin H2 _ (Sm.sm sr s2) (by cases n <;> simp only [entLines])⟩
        · refine ⟨_, rfl, b, _, _, _, rfl, rfl, sb, at3, rfl, _, rfl, iteN rfl ?_⟩
          refine ⟨_, rfl, b, _, _, _, rfl, rfl, sb, at3, _, rfl, b, _, _, _, rfl, rfl, sb, atI_nat (j := 4) rfl, (show 3 ≤ sizeLine by decide), fun t ht => ?_⟩
          have kt := KT.upd_new (o := .tup [.str "f", .ref c0, v4]) ht
          have rt : Rp K (upd H' t (.tup [.str "f", .ref c0, v4])) (.ref t) (conS (some s0) res).d := by
            simp only [conS, Sh.d]
            exact Rp.mk upd_same (.cons (.str _ (by decide +kernel)) (.cons (hs0.on kt) (.cons (h4.on kt) .nil)))
          have sr : Sm H' (upd H' t (.tup [.str "f", .ref c0, v4])) := Sm.new ht
          generalize (upd H' t (.tup [.str "f", .ref c0, v4])) = H3 at rt sr ⊢
          refine ⟨_, rfl, .inl ⟨rfl, _, SqL.of (sr _ _ eg)⟩, _, rfl, _, _, rfl, rfl, ?_, _, _, rfl, rfl, ?_, _, rfl, _, rfl, nm, .ref t, N, (conS (some s0) res), rfl, hA.nm.on (Sm.sm S sr), rt, hf, fun H2 s2 => ⟨_, _, rfl, rfl, ?_, g, _, _, rfl, rfl, (Sm.sm sr s2) _ _ eg, small_lt olen, ?_⟩⟩
          · rw [lit "con " 4]; exact small_le (by omega)
          · rw [slen, lit "con " 4, lit " : " 3]; exact small_le (by omega)
          · rw [slen, slen, lit "con " 4, lit " : " 3]; exact small_le (by omega)
          · exact ⟨g, _, _, _, _, _, rfl, fin H2 _ (Sm.sm sr s2) (by cases n <;> simp only [entLines])⟩
      | exn m arg =>
        obtain ⟨b, v, rfl, sb, hv⟩ := exn_inv hx
        simp only [En.name] at nl
        refine ⟨_, rfl, b, _, _, _, rfl, rfl, sb, at1, ?_⟩
        refine ⟨_, rfl, b, _, _, _, rfl, rfl, sb, at0, rfl, _, rfl, iteN (by decide +kernel) ?_⟩
        refine ⟨_, rfl, b, _, _, _, rfl, rfl, sb, at0, rfl, _, rfl, iteN (by decide +kernel) ?_⟩
        refine ⟨_, rfl, b, _, _, _, rfl, rfl, sb, at0, rfl, _, rfl, iteY (by decide +kernel) ?_⟩
        refine ⟨_, rfl, .inl ⟨rfl, _, SqL.of eg⟩, _, rfl, _, _, rfl, rfl, ?_, ?_⟩
        · rw [lit "exception " 10]; exact small_le (by omega)
        rcases arg_cases hv with ⟨rfl, rfl⟩ | ⟨sh, c, rfl, rfl, hb⟩
        · refine ⟨_, rfl, b, _, _, _, rfl, rfl, sb, at2, rfl, _, rfl, iteY rfl ?_⟩
          refine ⟨_, _, rfl, rfl, ?_, g, _, _, rfl, rfl, eg, small_lt olen, ?_⟩
          · rw [slen, lit "exception " 10, lit "" 0]; exact small_le (by omega)
          · exact ⟨g, _, _, _, _, _, rfl, fin H' _ Sm.refl' (by cases n <;> simp only [entLines])⟩
        · simp only [En.wf, Bool.and_eq_true, decide_eq_true_eq] at hw1
          have hf := fine_of hw1.2
          have tl := text_cap hA.nm.ok hf.st (by have := hf.sz; omega)
          refine ⟨_, rfl, b, _, _, _, rfl, rfl, sb, at2, rfl, _, rfl, iteN rfl ?_⟩
          refine ⟨_, rfl, _, rfl, b, _, _, _, rfl, rfl, sb, at2, nm, .ref c, N, sh, rfl, hA.nm.on S, hb, hf, fun H2 s2 => ⟨_, _, rfl, rfl, ?_, _, _, rfl, rfl, ?_, g, _, _, rfl, rfl, s2 _ _ eg, small_lt olen, ?_⟩⟩
          · rw [lit " of " 4]; exact small_le (by omega)
          · rw [slen, slen, lit "exception " 10, lit " of " 4]; exact small_le (by omega)
          · exact ⟨g, _, _, _, _, _, rfl, fin H2 _ s2 (by cases n <;> simp only [entLines])⟩
      | shp m c sh =>
        have hx0 := hx
        obtain ⟨b, v3, rfl, sb, h3, hm⟩ := shp_inv hx
        simp only [En.name] at nl
        simp only [En.wf, Bool.and_eq_true, decide_eq_true_eq] at hw1
        have hf := fine_of hw1.2
        have pl := parT_len c
        have tl := text_cap hA.nm.ok hf.st (by have := hf.sz; omega)
        have el := entLines_shp N n head m c sh
        refine ⟨_, rfl, b, _, _, _, rfl, rfl, sb, at1, ?_⟩
        refine ⟨_, rfl, b, _, _, _, rfl, rfl, sb, at0, rfl, _, rfl, iteN (by decide +kernel) ?_⟩
        refine ⟨_, rfl, b, _, _, _, rfl, rfl, sb, at0, rfl, _, rfl, iteN (by decide +kernel) ?_⟩
        refine ⟨_, rfl, b, _, _, _, rfl, rfl, sb, at0, rfl, _, rfl, iteN (by decide +kernel) ?_⟩
        refine ⟨_, rfl, b, _, _, _, rfl, rfl, sb, at0, rfl, _, rfl, iteY (by decide +kernel) ?_⟩
        refine ⟨(show 3 ≤ sizeLine by decide), fun l hl => ?_⟩
        have s2 : Sm H' (upd H' l (.lst [.str "", .str "'a ", .str "('a, 'b) "])) := Sm.new hl
        have el2 : (upd H' l (.lst [.str "", .str "'a ", .str "('a, 'b) "])) l = some (.lst [.str "", .str "'a ", .str "('a, 'b) "]) := upd_same
        generalize (upd H' l (.lst [.str "", .str "'a ", .str "('a, 'b) "])) = H2 at s2 el2 ⊢
        have sb2 := (KT.same s2).sqt sb
        have ep : atI [V.str "", .str "'a ", .str "('a, 'b) "] (c : Int) = some (V.str (parT c)) := by
          have := hw1.1.2
          match c, this with
          | 0, _ => exact atI_nat (j := 0) rfl
          | 1, _ => exact atI_nat (j := 1) rfl
          | 2, _ => exact atI_nat (j := 2) rfl
        refine ⟨_, rfl, b, _, _, _, rfl, rfl, sb2, at2, l, _, _, _, rfl, rfl, SqL.of el2, ep, _, rfl, _, _, rfl, rfl, small_le (by omega), ?_⟩
        refine ⟨_, rfl, _, rfl, _, rfl, _, rfl, (show 1 ≤ sizeLine by decide), fun t ht => ?_⟩
        refine cat_head (K := K) (hA.hd.on (KT.same (S.sm s2))) (hm.on (KT.same s2)) (by omega) ht fun r H3 s3 hr1 => ?_
        have s23 := Sm.sm s2 s3
        refine ⟨nm, .ref b, r, N, head ++ [m], m, c, sh, rfl, ⟨hA.nm.on (S.sm s23), hr1⟩, hx0.on (KT.same s23), hw1.1.2, fun H4 s4 => ?_⟩
        have s24 := Sm.sm s23 s4
        have eg4 := s24 _ _ eg
        refine ⟨_, rfl, ?_⟩
        cases cn : isNm N (.shp m c sh) (head ++ [m]) with
        | true =>
          refine iteT (B := _) ?_
          refine ⟨_, rfl, .inl ⟨rfl, _, SqL.of eg4⟩, _, rfl, _, _, rfl, rfl, ?_, g, _, _, rfl, rfl, eg4, small_lt olen, ?_⟩
          · rw [slen, lit "shape " 6]; exact small_le (by omega)
          · exact ⟨g, _, _, _, _, _, rfl, fin H4 _ s24 (by rw [el]; unfold lineShp; rw [if_pos cn])⟩
        | false =>
          refine iteF (A := _) ?_
          refine ⟨_, rfl, .inl ⟨rfl, _, SqL.of eg4⟩, _, rfl, _, _, rfl, rfl, ?_, _, _, rfl, rfl, ?_, _, rfl, _, rfl, b, _, _, _, rfl, rfl, (KT.same s24).sqt sb, at3, nm, v3, N, sh, rfl, hA.nm.on (S.sm s24), h3.on (KT.same s24), hf, fun H5 s5 => ⟨_, _, rfl, rfl, ?_, g, _, _, rfl, rfl, s5 _ _ eg4, small_lt olen, ?_⟩⟩
          · rw [slen, lit "alias " 6]; exact small_le (by omega)
          · rw [slen, slen, lit "alias " 6, lit " = " 3]; exact small_le (by omega)
          · rw [slen, slen, slen, lit "alias " 6, lit " = " 3]; exact small_le (by omega)
          · exact ⟨g, _, _, _, _, _, rfl, fin H5 _ (Sm.sm s24 s5) (by rw [el]; unfold lineShp; rw [if_neg (by rw [cn]; decide)])⟩
      | mod m l =>
        have hx0 := hx
        obtain ⟨b, v3, rfl, sb, h3, hm⟩ := mod_inv hx
        simp only [En.name] at nl
        simp only [En.wf, Bool.and_eq_true, decide_eq_true_eq] at hw1
        simp only [En.dep] at hd1
        obtain ⟨n, rfl⟩ : ∃ n', n = n' + 1 := ⟨n - 1, by omega⟩
        have hL := lv_ok hA.nm.ok n (head ++ [m]) (l := kept l) (fun e me => wfs_mem hw1.2 (keptTo_mem me)) (Nat.le_trans (keptTo_len l _) hw1.1.2)
        have hLl : (lvLines N n (head ++ [m]) l).length ≤ 8000 := by
          have := hL.1
          have h10' : 10 ^ n ≤ 10 ^ 3 := Nat.pow_le_pow_right (by decide) (by omega)
          show (lvTo N n (head ++ [m]) (kept l)).length ≤ 8000
          omega
        refine ⟨_, rfl, b, _, _, _, rfl, rfl, sb, at1, ?_⟩
        refine ⟨_, rfl, b, _, _, _, rfl, rfl, sb, at0, rfl, _, rfl, iteN (by decide +kernel) ?_⟩
        refine ⟨_, rfl, b, _, _, _, rfl, rfl, sb, at0, rfl, _, rfl, iteN (by decide +kernel) ?_⟩
        refine ⟨_, rfl, b, _, _, _, rfl, rfl, sb, at0, rfl, _, rfl, iteN (by decide +kernel) ?_⟩
        refine ⟨_, rfl, b, _, _, _, rfl, rfl, sb, at0, rfl, _, rfl, iteN (by decide +kernel) ?_⟩
        refine ⟨_, rfl, b, _, _, _, rfl, rfl, sb, at0, rfl, _, rfl, iteY (by decide +kernel) ?_⟩
        refine ⟨_, rfl, .inl ⟨rfl, _, SqL.of eg⟩, _, rfl, _, _, rfl, rfl, ?_, _, _, rfl, rfl, ?_, g, _, _, rfl, rfl, eg, small_lt olen, ?_⟩
        · rw [lit "module " 7]; exact small_le (by omega)
        · rw [slen, lit "module " 7, lit " = sig" 6]; exact small_le (by omega)
        have kg : KT H' (upd H' g (.lst ((lvTo N (n + 1) head ((kept es).take i)).map V.str ++ [.str ("module " ++ m ++ " = sig")]))) := KT.upd_lst (NT.lst eg)
        have S1 : Sm H (upd H' g (.lst ((lvTo N (n + 1) head ((kept es).take i)).map V.str ++ [.str ("module " ++ m ++ " = sig")]))) := S.upd hg
        have eg1 : (upd H' g (.lst ((lvTo N (n + 1) head ((kept es).take i)).map V.str ++ [.str ("module " ++ m ++ " = sig")]))) g = some (.lst ((lvTo N (n + 1) head ((kept es).take i)).map V.str ++ [.str ("module " ++ m ++ " = sig")])) := upd_same
        have eq1 : (upd H' g (.lst ((lvTo N (n + 1) head ((kept es).take i)).map V.str ++ [.str ("module " ++ m ++ " = sig")]))) q = some (.lst ys) := by rw [upd_ne hqg]; exact eq
        have hys1 := hys.on kg
        have sb1 := kg.sqt sb
        have h31 := h3.on kg
        have hm1 := hm.on kg
        generalize (upd H' g (.lst ((lvTo N (n + 1) head ((kept es).take i)).map V.str ++ [.str ("module " ++ m ++ " = sig")]))) = H1 at S1 eg1 eq1 hys1 sb1 h31 hm1 ⊢
        refine ⟨_, rfl, _, rfl, _, rfl, b, _, _, _, rfl, rfl, sb1, at2, _, rfl, _, rfl, (show 1 ≤ sizeLine by decide), fun t ht => ?_⟩
        refine cat_head (K := K) (hA.hd.on (KT.same S1)) hm1 (by omega) ht fun r H3 s3 hr1 => ?_
        refine ⟨n, rfl, nm, v3, r, N, head ++ [m], l, rfl, ⟨hA.nm.on (S1.sm s3), hr1⟩, by rw [List.length_append]; simp only [List.length_cons, List.length_nil]; omega, by omega, h31.on (KT.same s3), hw1.2, by omega, hw1.1.2, fun z H4 s4 ez => ?_⟩
        have s34 := Sm.sm s3 s4
        refine ⟨z, rfl, ⟨_, SqL.of ez⟩, fun D hD => ?_⟩
        refine lc_list (xs := (lvLines N n (head ++ [m]) l).map V.str) (fun j H' => Sm H4 H' ∧ H' D = some (.lst ((((lvLines N n (head ++ [m]) l).map fun l => ("  " : Str) ++ l).take j).map V.str))) ?_ ?_ ?_ ?_
        · exact ⟨Sm.new hD, by simp [upd_same]⟩
        · rintro j H' _ ⟨s5, _⟩
          exact SqL.of (s5 _ _ ez)
        · rintro j y H' hy ⟨s5, hacc⟩
          rw [List.getElem?_map] at hy
          cases e2 : (lvLines N n (head ++ [m]) l)[j]? with
          | none => rw [e2] at hy; cases hy
          | some z2 =>
            rw [e2] at hy
            simp at hy
            subst hy
            have hz := hL.2 z2 (List.mem_of_getElem? e2)
            refine ⟨rfl, tYes_do ?_⟩
            refine ⟨_, rfl, _, _, rfl, rfl, ?_, ?_⟩
            · rw [lit "  " 2]; exact small_le (by omega)
            refine ⟨_, hacc, small_lt (by rw [List.length_map, List.length_take, List.length_map]; omega), s5.upd hD, ?_⟩
            rw [upd_same, take_snoc (L := (lvLines N n (head ++ [m]) l).map fun l => ("  " : Str) ++ l) (e := ("  " : Str) ++ z2) (by rw [List.getElem?_map, e2]; rfl), List.map_append]
            rfl
        · rintro H5 ⟨s5, hacc⟩
          rw [List.take_of_length_le (by rw [List.length_map, List.length_map]; omega)] at hacc
          have s35 := Sm.sm s34 s5
          refine ⟨g, D, _, _, rfl, rfl, s35 _ _ eg1, hacc, ?_, fun p hp => ?_⟩
          · rw [List.length_append, List.length_map, List.length_map]; exact small_le (by rw [List.length_map] at olen ⊢; simp only [List.length_cons, List.length_nil]; omega)
          refine ⟨(show 1 ≤ sizeLine by decide), fun u hu => ?_⟩
          refine ⟨p, u, _, _, rfl, rfl, (Sm.new hu) _ _ upd_same, upd_same, ?_, fun w hw9 => ?_⟩
          · rw [List.length_append, List.length_append, List.length_map, List.length_map]; exact small_le (by rw [List.length_map] at olen ⊢; simp only [List.length_cons, List.length_nil]; omega)
          refine ⟨w, _, _, _, _, _, rfl, (((S1.sm s35).on hp).on hu).on hw9, Sm.free (((S1.sm s35).on hp).on hu) hw9, ne_of_none ((Sm.on (s35.on hp) hu) _ _ eq1) hw9, (Sm.on (Sm.on (s35.on hp) hu) hw9) _ _ eq1, hys1.on (KT.same (Sm.on (Sm.on (s35.on hp) hu) hw9)), ?_⟩
          · rw [upd_same, e5, entLines_mod, List.map_append, List.map_append, List.map_append, List.append_assoc, List.append_assoc, List.append_assoc]
            rfl
      | oth gg m r =>
        obtain ⟨b, ws, rfl, sb⟩ := en_inv hx
        simp only [En.tag, En.name] at sb nl
        obtain ⟨n1, n2, n3, n4, n5, n6⟩ := oth_wf hw1
        have gl : gg.length ≤ 10 := by
          simp only [En.wf, Bool.and_eq_true, decide_eq_true_eq] at hw1
          exact hw1.1.2
        refine ⟨_, rfl, b, _, _, _, rfl, rfl, sb, at1, ?_⟩
        refine ⟨_, rfl, b, _, _, _, rfl, rfl, sb, at0, rfl, _, rfl, iteN (str_ne' n1) ?_⟩
        refine ⟨_, rfl, b, _, _, _, rfl, rfl, sb, at0, rfl, _, rfl, iteN (str_ne' n2) ?_⟩
        refine ⟨_, rfl, b, _, _, _, rfl, rfl, sb, at0, rfl, _, rfl, iteN (str_ne' n3) ?_⟩
        refine ⟨_, rfl, b, _, _, _, rfl, rfl, sb, at0, rfl, _, rfl, iteN (str_ne' n4) ?_⟩
        refine ⟨_, rfl, b, _, _, _, rfl, rfl, sb, at0, rfl, _, rfl, iteN (str_ne' n5) ?_⟩
        refine ⟨_, rfl, .inl ⟨rfl, _, SqL.of eg⟩, _, rfl, b, _, _, _, rfl, rfl, sb, at0, _, _, rfl, rfl, ?_, _, rfl, _, _, rfl, rfl, ?_, g, _, _, rfl, rfl, eg, small_lt olen, ?_⟩
        · rw [lit " " 1]; exact small_le (by omega)
        · rw [slen, lit " " 1]; exact small_le (by omega)
        · exact ⟨g, _, _, _, _, _, rfl, fin H' _ Sm.refl' (by cases n <;> simp only [entLines])⟩
    · rintro σ' H' ⟨g, o4, o5, o6, o7, o8, rfl, S, hg, hqg, eq, hys, eg⟩
      rw [hyl, List.take_length] at eg
      exact ⟨_, rfl, k g H' S eg⟩
theorem ok_llines (T : Txt K mg A) : ∀ n : Nat, FnOk P w K mg base CX0 (n + 43) A.f__law_lines A.d__law_lines ["names", "entries", "head"] (spLevel K n)
  | 0 => ok_llinesS T 0 (FnOk.mono (T.F__law_lines.ok (k := 0) sc__law_lines (fun _ _ _ _ ⟨_, h, _⟩ => by omega) (fun _ _ _ _ _ _ _ _ _ ⟨_, h, _⟩ => by omega)) (by omega))
  | n + 1 => ok_llinesS T (n + 1) ((ok_llines T n).imp fun _ _ _ _ ⟨n', h, q⟩ => by cases h; exact q)
end
end K87

set_option Elab.async false
set_option maxRecDepth 100000
set_option linter.all false
set_option maxHeartbeats 4000000
/-! the entries that are drawn -/
namespace RG
open PySem L2 GD AG
inductive Some3 : Sh → Prop
  | a : Some3 (.c 0 [])
  | b : Some3 (.f (.c 4 []) (.c 1 []))
  | c : Some3 (.c 5 [.c 0 []])
theorem str_at (l : List Str) (h : l.all (fun x => PyData.strOk x && decide (x.length ≤ 10)) = true) {r : Int} (h0 : 0 ≤ r) (h1 : r < ((l.length : Nat) : Int)) : ∃ x, atI (l.map V.str) r = some (.str x) ∧ PyData.strOk x = true ∧ x.length ≤ 10 := by
  obtain ⟨j, rfl⟩ := Int.eq_ofNat_of_zero_le h0
  have hj : j < l.length := by omega
  refine ⟨l[j], atI_nat (by rw [List.getElem?_map, List.getElem?_eq_getElem hj]; rfl), ?_⟩
  have := List.all_eq_true.mp h l[j] (List.getElem_mem hj)
  simp only [Bool.and_eq_true, decide_eq_true_eq] at this
  exact this
theorem wf_val {n : Str} {k : Int} {s : Sh} (h : n.length ≤ 10) (f : s.fine = true) : (En.val n k s).wf = true := by
  simp only [En.wf, Bool.and_eq_true, decide_eq_true_eq]
  exact ⟨h, f⟩
theorem wf_con {n : Str} {ar i : Int} {arg : Option Sh} {res : Sh} {fam : PyData} (h : n.length ≤ 10) (f : (conS arg res).fine = true) (z : (conS arg res).vp p0 = true) : (En.con n ar arg res i fam).wf = true := by
  simp only [En.wf, Bool.and_eq_true, decide_eq_true_eq]
  exact ⟨⟨h, f⟩, z⟩
theorem wf_exn0 {n : Str} (h : n.length ≤ 10) : (En.exn n none).wf = true := by
  simp only [En.wf, Bool.and_true, decide_eq_true_eq]
  exact h
theorem wf_exn1 {n : Str} {a : Sh} (h : n.length ≤ 10) (f : a.fine = true) : (En.exn n (some a)).wf = true := by
  simp only [En.wf, Bool.and_eq_true, decide_eq_true_eq]
  exact ⟨h, f⟩
theorem wf_shp {n : Str} {k : Nat} {s : Sh} (h : n.length ≤ 10) (hk : k ≤ 2) (f : s.fine = true) : (En.shp n k s).wf = true := by
  simp only [En.wf, Bool.and_eq_true, decide_eq_true_eq]
  exact ⟨⟨h, hk⟩, f⟩
theorem wf_mod {n : Str} {es : List En} (h : n.length ≤ 10) (hk : es.length ≤ 8) (f : En.wfs es = true) : (En.mod n es).wf = true := by
  simp only [En.wf, Bool.and_eq_true, decide_eq_true_eq]
  exact ⟨⟨h, hk⟩, f⟩
theorem wf_fun {n : Str} {r : List PyData} (h : n.length ≤ 10) : (En.oth "functor" n r).wf = true := by
  simp only [En.wf, Bool.and_eq_true, decide_eq_true_eq]
  exact ⟨⟨h, by decide +kernel⟩, by decide +kernel⟩
theorem wf_sig {n : Str} {r : List PyData} (h : n.length ≤ 10) : (En.oth "signature" n r).wf = true := by
  simp only [En.wf, Bool.and_eq_true, decide_eq_true_eq]
  exact ⟨⟨h, by decide +kernel⟩, by decide +kernel⟩
theorem f_so {s : Sh} (h : Some3 s) : s.fine = true := by cases h <;> decide +kernel
theorem f_v2 : (Sh.f (.v 0) (.v 0)).fine = true := by decide +kernel
theorem f_v3 {s : Sh} (h : Some3 s) : (Sh.t [.v 0, .f (.v 1) s]).fine = true := by cases h <;> decide +kernel
theorem f_c0 : (conS none (.c 6 [.v 0])).fine = true ∧ (conS none (.c 6 [.v 0])).vp p0 = true := by constructor <;> decide +kernel
theorem f_c1 {s : Sh} (h : Some3 s) : (conS (some s) (.c 6 [.v 0])).fine = true ∧ (conS (some s) (.c 6 [.v 0])).vp p0 = true := by cases h <;> constructor <;> decide +kernel
theorem f_c2 : (conS (some (.v 0)) (.c 6 [.v 0])).fine = true ∧ (conS (some (.v 0)) (.c 6 [.v 0])).vp p0 = true := by constructor <;> decide +kernel
theorem f_st {n : Int} (h0 : 0 ≤ n) (h1 : n < 200) : (Sh.c n [.v 0, .v 1]).fine = true := by
  simp only [Sh.fine, Sh.vp, Sh.vps, Sh.stin, Sh.stins, Sh.sz, Sh.szs, Sh.dep, Sh.deps, Sh.d, Sh.ds, PyData.depth, PyData.depthAll, h0, h1, decide_true, List.length_cons, List.length_nil]
  rfl
theorem f_t : (Sh.t [.v 1, .v 0]).fine = true := by decide +kernel
theorem f_9 : (Sh.c 9 [.v 1, .v 0]).fine = true := by decide +kernel
theorem deps_le {n : Nat} : ∀ {l : List En}, (∀ e ∈ l, e.dep ≤ n) → En.deps l ≤ n
  | [], _ => by simp [En.deps]
  | a :: r, h => by
    simp only [En.deps]
    exact Nat.max_le.mpr ⟨h a (by simp), deps_le fun e m => h e (by simp [m])⟩
theorem pow3 (n : Nat) : 0 < 3 ^ n := Nat.pow_pos (by decide)
end RG

set_option Elab.async false
set_option maxRecDepth 100000
set_option linter.all false
set_option maxHeartbeats 40000000
set_option pp.maxSteps 400
namespace K87
open PySem L2 GD AG RG
section
variable {P : Program} {w : World} {K : PySem.W.Frag} {mg : Str → Option Value} {base : Heap} {A : Adr}
theorem sok {x : Str} (h : PyData.strOk x = true := by decide +kernel) {H : Hp} : Rp K H (.str x) (.str x) := .str x h
/-- but for the box and the counter -/
def Vs (b c s : Addr) (H H' : Hp) : Prop := ∀ a o, a ≠ b → a ≠ c → a ≠ s → H a = some o → H' a = some o
theorem Vs.refl {b c s : Addr} {H : Hp} : Vs b c s H H := fun _ _ _ _ _ e => e
theorem Vs.trans {b c s : Addr} {H H1 H2 : Hp} (h : Vs b c s H H1) (k : Vs b c s H1 H2) : Vs b c s H H2 := fun a o n1 n2 n3 e => k a o n1 n2 n3 (h a o n1 n2 n3 e)
theorem Vs.sm {b c s : Addr} {H H1 H2 : Hp} (h : Vs b c s H H1) (k : Sm H1 H2) : Vs b c s H H2 := fun a o n1 n2 n3 e => k a o (h a o n1 n2 n3 e)
theorem Vs.bx {b c s : Addr} {H H1 H2 : Hp} (h : Vs b c s H H1) (k : Bx b c H1 H2) : Vs b c s H H2 := fun a o n1 n2 n3 e => (k a n1 n2).trans (h a o n1 n2 n3 e)
theorem Vs.upd {b c s D : Addr} {H H1 : Hp} {o : HO} (h : Vs b c s H H1) (hD : H D = none) : Vs b c s H (L2.upd H1 D o) := fun a u n1 n2 n3 e => by
  rw [upd_ne (ne_of_none e hD)]
  exact h a u n1 n2 n3 e
/-- the counter -/
structure CnAt (H : Hp) (b c s : Addr) (n : Int) : Prop where
  nb : s ≠ b
  nc : s ≠ c
  at_ : H s = some (.lst [.int n])
theorem CnAt.sm {H H' : Hp} {b c s : Addr} {n : Int} (h : CnAt H b c s n) (k : Sm H H') : CnAt H' b c s n := ⟨h.nb, h.nc, k _ _ h.at_⟩
theorem CnAt.bx {H H' : Hp} {b c s : Addr} {n : Int} (h : CnAt H b c s n) (hb : BoxAt H b c) (k : Bx b c H H') : CnAt H' b c s n := ⟨h.nb, h.nc, (k _ h.nb h.nc).trans h.at_⟩
theorem BoxAt.ktv {H H' : Hp} {b c s : Addr} {n : Int} (h : BoxAt H b c) (q : CnAt H b c s n) (k : Vs b c s H H') : KT H H' := by
  obtain ⟨ns, n, m, k0, h1, h2, h3⟩ := h
  obtain ⟨nb, nc, e⟩ := q
  intro a xs q
  have n1 : a ≠ b := fun z => NT.lst h1 xs (by rw [z] at q; exact q)
  have n2 : a ≠ c := fun z => NT.lst h2 xs (by rw [z] at q; exact q)
  have n3 : a ≠ s := fun z => NT.lst e xs (by rw [z] at q; exact q)
  rcases q with q | ⟨o, q⟩
  · exact .inl (k _ _ n1 n2 n3 q)
  · exact .inr ⟨o, k _ _ n1 n2 n3 q⟩
/-- lists that are not the box's -/
def Offy : List V → Bool
  | .str _ :: _ => true
  | .non :: _ => true
  | .ref _ :: .ref _ :: _ => true
  | _ => false
theorem BoxAt.off2 {H : Hp} {b c L : Addr} {xs : List V} (h : BoxAt H b c) (e : H L = some (.lst xs)) (o : Offy xs = true := by rfl) : L ≠ b ∧ L ≠ c := by
  obtain ⟨ns, n, m, k, h1, h2, _⟩ := h
  refine ⟨ne_of e h1 (fun z => by cases z; cases o), ne_of e h2 fun z => ?_⟩
  cases z
  cases ns with
  | nil => cases o
  | cons x r => cases o
theorem BoxAt.updD {b c D : Addr} {H : Hp} {o : HO} (h : BoxAt H b c) (n1 : D ≠ b) (n2 : D ≠ c) : BoxAt (L2.upd H D o) b c := h.keep fun a u e z => by
  rw [upd_ne (by rcases z with z | z <;> subst z <;> first | exact n1.symm | exact n2.symm)]
  exact e
theorem CnAt.updD {H : Hp} {b c s D : Addr} {n : Int} {o : HO} (h : CnAt H b c s n) (n1 : D ≠ s) : CnAt (L2.upd H D o) b c s n := ⟨h.nb, h.nc, by rw [upd_ne n1.symm]; exact h.at_⟩
def spE (K : PySem.W.Frag) (n : Nat) : Sp := fun vs H Q _ => ∃ (b c s : Addr) (deep cn : Int), vs = [.ref b, .ref s, .int deep] ∧ deep = (n : Int) ∧ n ≤ 2 ∧ BoxAt H b c ∧ CnAt H b c s cn ∧ 8 ≤ cn ∧ cn + (3 ^ n : Nat) ≤ 190 ∧
  ∀ (r : V) (H' : Hp) (e : En) (cn' : Int), Vs b c s H H' → BoxAt H' b c → CnAt H' b c s cn' → cn ≤ cn' → cn' ≤ cn + (3 ^ n : Nat) → Rp K H' r e.d → e.wf = true → e.dep ≤ n → Q r H'
theorem int3 {r : Int} (h0 : 0 ≤ r) (h1 : r < 3) : r = 0 ∨ r = 1 ∨ r = 2 := by omega
theorem int2 {r : Int} (h0 : 0 ≤ r) (h1 : r < 2) : r = 0 ∨ r = 1 := by omega
theorem ok_entS (T : Txt K mg A) (n : Nat) (G : FnOk P w K mg base CX0 (n + 3) A.f__law_entry A.d__law_entry ["box", "stamps", "deep"] (Less (spE K) n)) : FnOk P w K mg base CX0 (n + 4) A.f__law_entry A.d__law_entry ["box", "stamps", "deep"] (spE K n) := by
  have G__law_entry : FnOk P w K mg base CX0 (n + 3) A.f__law_entry A.d__law_entry _ _ := G
  have G__law_draw : FnOk P w K mg base CX0 2 A.f__law_draw A.d__law_draw _ _ := ok__law_draw T
  have G__law_kept : FnOk P w K mg base CX0 2 A.f__law_kept A.d__law_kept _ _ := ok_kept T
  refine T.F__law_entry.ok (k := n + 3) sc__law_entry (fun vs H Q E h => ?_) (fun cdv Ar outer s H vs Q E hr h => ?_)
  · obtain ⟨b, c, s, deep, cn, rfl, _⟩ := h
    rfl
  · obtain ⟨b, c, s, deep, cn, rfl, hdeep, hn2, hB, hc, hc8, hcb, k⟩ := h
    refine ⟨_, (pss_cons (ps_set (i := 3) sc__law_entry.nd rfl (Or.inl rfl) (pe_call G__law_draw (hr.mono (by first | decide | omega)) rfl T.g__law_draw T.F__law_draw.kp T.b__law_draw .nil pass0 (pa_cons (pv 0) (pa_cons pe_int pa_nil)))) (pss_cons (ps_set (i := 4) sc__law_entry.nd rfl (Or.inl rfl) (pe_ix (ixl (K := K) rfl) (pe_lst (pa_cons pe_str (pa_cons pe_str (pa_cons pe_str (pa_cons pe_str pa_nil))))) (pe_call G__law_draw (hr.mono (by first | decide | omega)) rfl T.g__law_draw T.F__law_draw.kp T.b__law_draw .nil pass0 (pa_cons (pv 0) (pa_cons pe_int pa_nil))) (fun _ _ => rfl))) (pss_cons (ps_set (i := 5) sc__law_entry.nd rfl (Or.inl rfl) (pe_ix (ixl (K := K) rfl) (pe_lst (pa_cons pe_str (pa_cons pe_str (pa_cons pe_str pa_nil)))) (pe_call G__law_draw (hr.mono (by first | decide | omega)) rfl T.g__law_draw T.F__law_draw.kp T.b__law_draw .nil pass0 (pa_cons (pv 0) (pa_cons pe_int pa_nil))) (fun _ _ => rfl))) (pss_cons (ps_set (i := 6) sc__law_entry.nd rfl (Or.inl rfl) (pe_tup (pa_cons pe_str (pa_cons pe_int pa_nil)))) (pss_cons (ps_set (i := 7) sc__law_entry.nd rfl (Or.inl rfl) (pe_tup (pa_cons pe_str (pa_cons pe_int pa_nil)))) (pss_cons (ps_set (i := 8) sc__law_entry.nd rfl (Or.inl rfl) (pe_ix (ixl (K := K) rfl) (pe_lst (pa_cons (pe_tup (pa_cons pe_str (pa_cons pe_int (pa_cons (pe_tup pa_nil) pa_nil)))) (pa_cons (pe_tup (pa_cons pe_str (pa_cons (pe_tup (pa_cons pe_str (pa_cons pe_int (pa_cons (pe_tup pa_nil) pa_nil)))) (pa_cons (pe_tup (pa_cons pe_str (pa_cons pe_int (pa_cons (pe_tup pa_nil) pa_nil)))) pa_nil)))) (pa_cons (pe_tup (pa_cons pe_str (pa_cons pe_int (pa_cons (pe_tup (pa_cons (pe_tup (pa_cons pe_str (pa_cons pe_int (pa_cons (pe_tup pa_nil) pa_nil)))) pa_nil)) pa_nil)))) pa_nil)))) (pe_call G__law_draw (hr.mono (by first | decide | omega)) rfl T.g__law_draw T.F__law_draw.kp T.b__law_draw .nil pass0 (pa_cons (pv 0) (pa_cons pe_int pa_nil))) (fun _ _ => rfl))) (pss_cons (ps_if (pt_cmpR op_eq (pv 3) pe_int (nomark _)) (pss_one (ps_ret (pe_tup (pa_cons pe_str (pa_cons (pv 4) (pa_cons (pe_ix (ixl (K := K) rfl) (pe_lst (pa_cons (pe_tup (pa_cons pe_int (pa_cons (pv 8) pa_nil))) (pa_cons (pe_tup (pa_cons pe_int (pa_cons (pe_tup (pa_cons pe_str (pa_cons (pv 6) (pa_cons (pv 6) pa_nil)))) pa_nil))) (pa_cons (pe_tup (pa_cons pe_int (pa_cons (pe_tup (pa_cons pe_str (pa_cons (pe_tup (pa_cons (pv 6) (pa_cons (pe_tup (pa_cons pe_str (pa_cons (pv 7) (pa_cons (pv 8) pa_nil)))) pa_nil))) pa_nil))) pa_nil))) pa_nil)))) (pe_call G__law_draw (hr.mono (by first | decide | omega)) rfl T.g__law_draw T.F__law_draw.kp T.b__law_draw .nil pass0 (pa_cons (pv 0) (pa_cons pe_int pa_nil))) (fun _ _ => rfl)) pa_nil)))))) pss_nil) (pss_cons (ps_if (pt_cmpR op_eq (pv 3) pe_int (nomark _)) (pss_cons (ps_set (i := 9) sc__law_entry.nd rfl (Or.inl rfl) (pe_ix (ixl (K := K) rfl) (pe_lst (pa_cons pe_non (pa_cons (pv 8) (pa_cons (pv 6) pa_nil)))) (pe_call G__law_draw (hr.mono (by first | decide | omega)) rfl T.g__law_draw T.F__law_draw.kp T.b__law_draw .nil pass0 (pa_cons (pv 0) (pa_cons pe_int pa_nil))) (fun _ _ => rfl))) (pss_cons (ps_set (i := 10) sc__law_entry.nd rfl (Or.inl rfl) (pe_tup (pa_cons pe_str (pa_cons pe_int (pa_cons (pe_tup (pa_cons (pv 6) pa_nil)) pa_nil))))) (pss_one (ps_ret (pe_tup (pa_cons pe_str (pa_cons (pv 5) (pa_cons pe_int (pa_cons (pv 9) (pa_cons (pv 10) (pa_cons pe_int (pa_cons (pe_tup (pa_cons (pe_tup (pa_cons (pv 5) (pa_cons (pe_cmpR op_notN (pv 9) pe_non (nomark _)) pa_nil))) pa_nil)) pa_nil)))))))))))) pss_nil) (pss_cons (ps_if (pt_cmpR op_eq (pv 3) pe_int (nomark _)) (pss_one (ps_ret (pe_tup (pa_cons pe_str (pa_cons (pv 5) (pa_cons (pe_ix (ixl (K := K) rfl) (pe_lst (pa_cons pe_non (pa_cons (pv 8) pa_nil))) (pe_call G__law_draw (hr.mono (by first | decide | omega)) rfl T.g__law_draw T.F__law_draw.kp T.b__law_draw .nil pass0 (pa_cons (pv 0) (pa_cons pe_int pa_nil))) (fun _ _ => rfl)) pa_nil)))))) pss_nil) (pss_cons (ps_if (pt_cmpR op_eq (pv 3) pe_int (nomark _)) (pss_cons (ps_asg (pe_op op_add (pe_ix (ixl (K := K) rfl) (pv 1) pe_int (fun _ _ => rfl)) pe_int) (pg_sub (pv 1) pe_int set_list)) (pss_one (ps_ret (pe_tup (pa_cons pe_str (pa_cons (pe_ix (ixl (K := K) rfl) (pe_lst (pa_cons pe_str (pa_cons pe_str pa_nil))) (pe_call G__law_draw (hr.mono (by first | decide | omega)) rfl T.g__law_draw T.F__law_draw.kp T.b__law_draw .nil pass0 (pa_cons (pv 0) (pa_cons pe_int pa_nil))) (fun _ _ => rfl)) (pa_cons pe_int (pa_cons (pe_tup (pa_cons pe_str (pa_cons (pe_ix (ixl (K := K) rfl) (pv 1) pe_int (fun _ _ => rfl)) (pa_cons (pe_tup (pa_cons (pv 6) (pa_cons (pv 7) pa_nil))) pa_nil)))) pa_nil)))))))) pss_nil) (pss_cons (ps_if (pt_cmpR op_eq (pv 3) pe_int (nomark _)) (pss_one (ps_ret (pe_tup (pa_cons pe_str (pa_cons (pe_ix (ixl (K := K) rfl) (pe_lst (pa_cons pe_str (pa_cons pe_str pa_nil))) (pe_call G__law_draw (hr.mono (by first | decide | omega)) rfl T.g__law_draw T.F__law_draw.kp T.b__law_draw .nil pass0 (pa_cons (pv 0) (pa_cons pe_int pa_nil))) (fun _ _ => rfl)) (pa_cons pe_int (pa_cons (pe_ix (ixl (K := K) rfl) (pe_lst (pa_cons (pe_tup (pa_cons pe_str (pa_cons (pe_tup (pa_cons (pv 7) (pa_cons (pv 6) pa_nil))) pa_nil))) (pa_cons (pe_tup (pa_cons pe_str (pa_cons pe_int (pa_cons (pe_tup (pa_cons (pv 7) (pa_cons (pv 6) pa_nil))) pa_nil)))) (pa_cons (pv 8) pa_nil)))) (pe_call G__law_draw (hr.mono (by first | decide | omega)) rfl T.g__law_draw T.F__law_draw.kp T.b__law_draw .nil pass0 (pa_cons (pv 0) (pa_cons pe_int pa_nil))) (fun _ _ => rfl)) pa_nil))))))) pss_nil) (pss_cons (ps_if (pt_cmpR op_eq (pv 3) pe_int (nomark _)) (pss_one (ps_ret (pe_tup (pa_cons pe_str (pa_cons (pe_ix (ixl (K := K) rfl) (pe_lst (pa_cons pe_str (pa_cons pe_str pa_nil))) (pe_call G__law_draw (hr.mono (by first | decide | omega)) rfl T.g__law_draw T.F__law_draw.kp T.b__law_draw .nil pass0 (pa_cons (pv 0) (pa_cons pe_int pa_nil))) (fun _ _ => rfl)) (pa_cons (pe_call G__law_draw (hr.mono (by first | decide | omega)) rfl T.g__law_draw T.F__law_draw.kp T.b__law_draw .nil pass0 (pa_cons (pv 0) (pa_cons pe_int pa_nil))) (pa_cons (pv 8) pa_nil))))))) pss_nil) (pss_cons (ps_if (pt_cmpR op_eq (pv 3) pe_int (nomark _)) (pss_one (ps_ret (pe_tup (pa_cons pe_str (pa_cons (pv 5) (pa_cons (pe_tup (pa_cons (pe_tup pa_nil) (pa_cons (pe_tup pa_nil) pa_nil))) (pa_cons (pe_tup pa_nil) (pa_cons (pe_tup pa_nil) pa_nil)))))))) pss_nil) (pss_cons (ps_if (PW.pt (pw_or (pt_cmpR op_eq (pv 3) pe_int (nomark _)) (pw_or1 (pt_cmpR op_eq (pv 2) pe_int (nomark _))))) (pss_one (ps_ret (pe_tup (pa_cons pe_str (pa_cons (pv 5) (pa_cons (pe_tup (pa_cons (pe_tup pa_nil) (pa_cons (pe_tup pa_nil) pa_nil))) pa_nil)))))) pss_nil) (pss_cons (ps_setLc (i := 11) (own := [("k", 12)]) (g := gName 12) (tt := tYes) rfl sc__law_entry.nd rfl rfl (sw_true rfl rfl rfl (by decide +kernel)) (pi_range1 rfl T.n_range (pa_cons (pe_call G__law_draw (hr.mono (by first | decide | omega)) rfl T.g__law_draw T.F__law_draw.kp T.b__law_draw .nil pass0 (pa_cons (pv 0) (pa_cons pe_int pa_nil))) pa_nil)) (blkOk_by (N := N__law_entry) (sc := defScope s__law_entry) (by decide +kernel)) (fun _ _ _ _ _ => (pg_name (i := 12) sc__law_entry.nd rfl (Or.inl rfl))) (fun _ _ _ _ _ => pts_nil) (fun _ _ _ _ _ => (pe_call G__law_entry (hr.mono (by first | decide | omega)) rfl T.g__law_entry T.F__law_entry.kp T.b__law_entry .nil pass0 (pa_cons (pv 0) (pa_cons (pv 1) (pa_cons (pe_op op_sub (pv 2) pe_int) pa_nil)))))) (pss_one (ps_ret (pe_tup (pa_cons pe_str (pa_cons (pv 5) (pa_cons (pe_callTy call_tuple_of (by rfl) T.n_tuple (by decide +kernel) (pa_cons (pe_call G__law_kept (hr.mono (by first | decide | omega)) rfl T.g__law_kept T.F__law_kept.kp T.b__law_kept .nil pass0 (pa_cons (pe_lc (own := [("entry", 13)]) (g := gName 13) rfl sc__law_entry.nd (pi_list (pv 11)) (blkOk_by (N := N__law_entry) (sc := defScope s__law_entry) (by decide +kernel)) (fun _ _ _ _ _ => (pg_name (i := 13) sc__law_entry.nd rfl (Or.inl rfl))) (fun _ _ _ _ _ => (pts_one (pt_cmpR op_ne (pe_ix (ixt (K := K) rfl) (pv 13) pe_int (fun _ _ => rfl)) pe_str (nomark _)))) (fun _ _ _ _ _ => (pv 13))) pa_nil)) pa_nil)) pa_nil))))))))))))))))))))), ?_⟩
    have p3 := pow3 n
    refine ⟨_, rfl, b, c, 9, rfl, by decide, by decide, hB, fun kd H1 kd0 kd1 hx1 hB1 => ?_⟩
    have S : Vs b c s H H1 := Vs.refl.bx hx1
    replace hc := hc.bx hB hx1
    clear hB
    refine ⟨(show 4 ≤ sizeLine by decide), fun L1 h_L1 => ?_⟩
    have s_L1 : Sm H1 (upd H1 L1 (.lst [.str "x", .str "y", .str "+", .str "id"])) := Sm.new h_L1
    have o_L1 : (upd H1 L1 (.lst [.str "x", .str "y", .str "+", .str "id"])) L1 = some (.lst [.str "x", .str "y", .str "+", .str "id"]) := upd_same
    replace hB1 := hB1.keep fun a o e _ => s_L1 a o e
    replace hc := hc.sm s_L1
    replace S := S.sm s_L1
    clear h_L1
    clear s_L1
    generalize (upd H1 L1 (.lst [.str "x", .str "y", .str "+", .str "id"])) = Hq1 at hB1 hc o_L1 S ⊢
    refine ⟨_, rfl, b, c, 4, rfl, by decide, by decide, hB1, fun r1 H2 r10 r11 hx2 hB2 => ?_⟩
    replace hc := hc.bx hB1 hx2
    replace o_L1 := (hx2 _ (hB1.off2 o_L1).1 (hB1.off2 o_L1).2).trans o_L1
    replace S := S.bx hx2
    replace hB1 := hB2
    obtain ⟨sm, esm, osm, lsm⟩ := str_at ["x", "y", "+", "id"] (by decide +kernel) r10 r11
    refine ⟨L1, _, _, _, rfl, rfl, SqL.of o_L1, esm, ?_⟩
    clear o_L1 esm hx1 hx2 hB2
    refine ⟨(show 3 ≤ sizeLine by decide), fun L2 h_L2 => ?_⟩
    have s_L2 : Sm H2 (upd H2 L2 (.lst [.str "A", .str "B", .str "C"])) := Sm.new h_L2
    have o_L2 : (upd H2 L2 (.lst [.str "A", .str "B", .str "C"])) L2 = some (.lst [.str "A", .str "B", .str "C"]) := upd_same
    replace hB1 := hB1.keep fun a o e _ => s_L2 a o e
    replace hc := hc.sm s_L2
    replace S := S.sm s_L2
    clear h_L2
    clear s_L2
    generalize (upd H2 L2 (.lst [.str "A", .str "B", .str "C"])) = Hq2 at hB1 hc o_L2 S ⊢
    refine ⟨_, rfl, b, c, 3, rfl, by decide, by decide, hB1, fun r2 H3 r20 r21 hx3 hB3 => ?_⟩
    replace hc := hc.bx hB1 hx3
    replace o_L2 := (hx3 _ (hB1.off2 o_L2).1 (hB1.off2 o_L2).2).trans o_L2
    replace S := S.bx hx3
    replace hB1 := hB3
    obtain ⟨cp, ecp, ocp, lcp⟩ := str_at ["A", "B", "C"] (by decide +kernel) r20 r21
    refine ⟨L2, _, _, _, rfl, rfl, SqL.of o_L2, ecp, ?_⟩
    clear o_L2 ecp hx3 hB3
    refine ⟨(show 2 ≤ sizeLine by decide), fun v0 h_v0 => ?_⟩
    have s_v0 : Sm H3 (upd H3 v0 (.tup [.str "v", .int 0])) := Sm.new h_v0
    have r_v0 : Rp K (upd H3 v0 (.tup [.str "v", .int 0])) (.ref v0) (.tuple _) := Rp.mk upd_same (RpAll.on (.cons sok (.cons (.int _) .nil)) (KT.upd_new h_v0))
    replace hB1 := hB1.keep fun a o e _ => s_v0 a o e
    replace hc := hc.sm s_v0
    replace S := S.sm s_v0
    clear h_v0
    clear s_v0
    generalize (upd H3 v0 (.tup [.str "v", .int 0])) = Hq3 at hB1 hc r_v0 S ⊢
    refine ⟨(show 2 ≤ sizeLine by decide), fun v1 h_v1 => ?_⟩
    have s_v1 : Sm Hq3 (upd Hq3 v1 (.tup [.str "v", .int 1])) := Sm.new h_v1
    have r_v1 : Rp K (upd Hq3 v1 (.tup [.str "v", .int 1])) (.ref v1) (.tuple _) := Rp.mk upd_same (RpAll.on (.cons sok (.cons (.int _) .nil)) (KT.upd_new h_v1))
    replace hB1 := hB1.keep fun a o e _ => s_v1 a o e
    replace hc := hc.sm s_v1
    replace r_v0 := r_v0.on (KT.same s_v1)
    replace S := S.sm s_v1
    clear h_v1
    clear s_v1
    generalize (upd Hq3 v1 (.tup [.str "v", .int 1])) = Hq4 at hB1 hc r_v0 r_v1 S ⊢
    refine ⟨Nat.zero_le _, fun e0 h_e0 => ?_⟩
    have s_e0 : Sm Hq4 (upd Hq4 e0 (.tup [])) := Sm.new h_e0
    have r_e0 : Rp K (upd Hq4 e0 (.tup [])) (.ref e0) (.tuple _) := Rp.mk upd_same (RpAll.on (.nil) (KT.upd_new h_e0))
    replace hB1 := hB1.keep fun a o e _ => s_e0 a o e
    replace hc := hc.sm s_e0
    replace r_v0 := r_v0.on (KT.same s_e0)
    replace r_v1 := r_v1.on (KT.same s_e0)
    replace S := S.sm s_e0
    clear h_e0
    clear s_e0
    generalize (upd Hq4 e0 (.tup [])) = Hq5 at hB1 hc r_v0 r_v1 r_e0 S ⊢
    refine ⟨(show 3 ≤ sizeLine by decide), fun s0 h_s0 => ?_⟩
    have s_s0 : Sm Hq5 (upd Hq5 s0 (.tup [.str "c", .int 0, .ref e0])) := Sm.new h_s0
    have r_s0 : Rp K (upd Hq5 s0 (.tup [.str "c", .int 0, .ref e0])) (.ref s0) (.tuple _) := Rp.mk upd_same (RpAll.on (.cons sok (.cons (.int _) (.cons r_e0 .nil))) (KT.upd_new h_s0))
    replace hB1 := hB1.keep fun a o e _ => s_s0 a o e
    replace hc := hc.sm s_s0
    replace r_v0 := r_v0.on (KT.same s_s0)
    replace r_v1 := r_v1.on (KT.same s_s0)
    replace r_e0 := r_e0.on (KT.same s_s0)
    replace S := S.sm s_s0
    clear h_s0
    clear s_s0
    generalize (upd Hq5 s0 (.tup [.str "c", .int 0, .ref e0])) = Hq6 at hB1 hc r_v0 r_v1 r_e0 r_s0 S ⊢
    refine ⟨Nat.zero_le _, fun e4 h_e4 => ?_⟩
    have s_e4 : Sm Hq6 (upd Hq6 e4 (.tup [])) := Sm.new h_e4
    have r_e4 : Rp K (upd Hq6 e4 (.tup [])) (.ref e4) (.tuple _) := Rp.mk upd_same (RpAll.on (.nil) (KT.upd_new h_e4))
    replace hB1 := hB1.keep fun a o e _ => s_e4 a o e
    replace hc := hc.sm s_e4
    replace r_v0 := r_v0.on (KT.same s_e4)
    replace r_v1 := r_v1.on (KT.same s_e4)
    replace r_e0 := r_e0.on (KT.same s_e4)
    replace r_s0 := r_s0.on (KT.same s_e4)
    replace S := S.sm s_e4
    clear h_e4
    clear s_e4
    generalize (upd Hq6 e4 (.tup [])) = Hq7 at hB1 hc r_v0 r_v1 r_e0 r_s0 r_e4 S ⊢
    refine ⟨(show 3 ≤ sizeLine by decide), fun s4 h_s4 => ?_⟩
    have s_s4 : Sm Hq7 (upd Hq7 s4 (.tup [.str "c", .int 4, .ref e4])) := Sm.new h_s4
    have r_s4 : Rp K (upd Hq7 s4 (.tup [.str "c", .int 4, .ref e4])) (.ref s4) (.tuple _) := Rp.mk upd_same (RpAll.on (.cons sok (.cons (.int _) (.cons r_e4 .nil))) (KT.upd_new h_s4))
    replace hB1 := hB1.keep fun a o e _ => s_s4 a o e
    replace hc := hc.sm s_s4
    replace r_v0 := r_v0.on (KT.same s_s4)
    replace r_v1 := r_v1.on (KT.same s_s4)
    replace r_e0 := r_e0.on (KT.same s_s4)
    replace r_s0 := r_s0.on (KT.same s_s4)
    replace r_e4 := r_e4.on (KT.same s_s4)
    replace S := S.sm s_s4
    clear h_s4
    clear s_s4
    generalize (upd Hq7 s4 (.tup [.str "c", .int 4, .ref e4])) = Hq8 at hB1 hc r_v0 r_v1 r_e0 r_s0 r_e4 r_s4 S ⊢
    refine ⟨Nat.zero_le _, fun e1 h_e1 => ?_⟩
    have s_e1 : Sm Hq8 (upd Hq8 e1 (.tup [])) := Sm.new h_e1
    have r_e1 : Rp K (upd Hq8 e1 (.tup [])) (.ref e1) (.tuple _) := Rp.mk upd_same (RpAll.on (.nil) (KT.upd_new h_e1))
    replace hB1 := hB1.keep fun a o e _ => s_e1 a o e
    replace hc := hc.sm s_e1
    replace r_v0 := r_v0.on (KT.same s_e1)
    replace r_v1 := r_v1.on (KT.same s_e1)
    replace r_e0 := r_e0.on (KT.same s_e1)
    replace r_s0 := r_s0.on (KT.same s_e1)
    replace r_e4 := r_e4.on (KT.same s_e1)
    replace r_s4 := r_s4.on (KT.same s_e1)
    replace S := S.sm s_e1
    clear h_e1
    clear s_e1
    generalize (upd Hq8 e1 (.tup [])) = Hq9 at hB1 hc r_v0 r_v1 r_e0 r_s0 r_e4 r_s4 r_e1 S ⊢
    refine ⟨(show 3 ≤ sizeLine by decide), fun s1 h_s1 => ?_⟩
    have s_s1 : Sm Hq9 (upd Hq9 s1 (.tup [.str "c", .int 1, .ref e1])) := Sm.new h_s1
    have r_s1 : Rp K (upd Hq9 s1 (.tup [.str "c", .int 1, .ref e1])) (.ref s1) (.tuple _) := Rp.mk upd_same (RpAll.on (.cons sok (.cons (.int _) (.cons r_e1 .nil))) (KT.upd_new h_s1))
    replace hB1 := hB1.keep fun a o e _ => s_s1 a o e
    replace hc := hc.sm s_s1
    replace r_v0 := r_v0.on (KT.same s_s1)
    replace r_v1 := r_v1.on (KT.same s_s1)
    replace r_e0 := r_e0.on (KT.same s_s1)
    replace r_s0 := r_s0.on (KT.same s_s1)
    replace r_e4 := r_e4.on (KT.same s_s1)
    replace r_s4 := r_s4.on (KT.same s_s1)
    replace r_e1 := r_e1.on (KT.same s_s1)
    replace S := S.sm s_s1
    clear h_s1
    clear s_s1
    generalize (upd Hq9 s1 (.tup [.str "c", .int 1, .ref e1])) = Hq10 at hB1 hc r_v0 r_v1 r_e0 r_s0 r_e4 r_s4 r_e1 r_s1 S ⊢
    refine ⟨(show 3 ≤ sizeLine by decide), fun sf h_sf => ?_⟩
    have s_sf : Sm Hq10 (upd Hq10 sf (.tup [.str "f", .ref s4, .ref s1])) := Sm.new h_sf
    have r_sf : Rp K (upd Hq10 sf (.tup [.str "f", .ref s4, .ref s1])) (.ref sf) (.tuple _) := Rp.mk upd_same (RpAll.on (.cons sok (.cons r_s4 (.cons r_s1 .nil))) (KT.upd_new h_sf))
    replace hB1 := hB1.keep fun a o e _ => s_sf a o e
    replace hc := hc.sm s_sf
    replace r_v0 := r_v0.on (KT.same s_sf)
    replace r_v1 := r_v1.on (KT.same s_sf)
    replace r_e0 := r_e0.on (KT.same s_sf)
    replace r_s0 := r_s0.on (KT.same s_sf)
    replace r_e4 := r_e4.on (KT.same s_sf)
    replace r_s4 := r_s4.on (KT.same s_sf)
    replace r_e1 := r_e1.on (KT.same s_sf)
    replace r_s1 := r_s1.on (KT.same s_sf)
    replace S := S.sm s_sf
    clear h_sf
    clear s_sf
    generalize (upd Hq10 sf (.tup [.str "f", .ref s4, .ref s1])) = Hq11 at hB1 hc r_v0 r_v1 r_e0 r_s0 r_e4 r_s4 r_e1 r_s1 r_sf S ⊢
    refine ⟨Nat.zero_le _, fun e5 h_e5 => ?_⟩
    have s_e5 : Sm Hq11 (upd Hq11 e5 (.tup [])) := Sm.new h_e5
    have r_e5 : Rp K (upd Hq11 e5 (.tup [])) (.ref e5) (.tuple _) := Rp.mk upd_same (RpAll.on (.nil) (KT.upd_new h_e5))
    replace hB1 := hB1.keep fun a o e _ => s_e5 a o e
    replace hc := hc.sm s_e5
    replace r_v0 := r_v0.on (KT.same s_e5)
    replace r_v1 := r_v1.on (KT.same s_e5)
    replace r_e0 := r_e0.on (KT.same s_e5)
    replace r_s0 := r_s0.on (KT.same s_e5)
    replace r_e4 := r_e4.on (KT.same s_e5)
    replace r_s4 := r_s4.on (KT.same s_e5)
    replace r_e1 := r_e1.on (KT.same s_e5)
    replace r_s1 := r_s1.on (KT.same s_e5)
    replace r_sf := r_sf.on (KT.same s_e5)
    replace S := S.sm s_e5
    clear h_e5
    clear s_e5
    generalize (upd Hq11 e5 (.tup [])) = Hq12 at hB1 hc r_v0 r_v1 r_e0 r_s0 r_e4 r_s4 r_e1 r_s1 r_sf r_e5 S ⊢
    refine ⟨(show 3 ≤ sizeLine by decide), fun s5 h_s5 => ?_⟩
    have s_s5 : Sm Hq12 (upd Hq12 s5 (.tup [.str "c", .int 0, .ref e5])) := Sm.new h_s5
    have r_s5 : Rp K (upd Hq12 s5 (.tup [.str "c", .int 0, .ref e5])) (.ref s5) (.tuple _) := Rp.mk upd_same (RpAll.on (.cons sok (.cons (.int _) (.cons r_e5 .nil))) (KT.upd_new h_s5))
    replace hB1 := hB1.keep fun a o e _ => s_s5 a o e
    replace hc := hc.sm s_s5
    replace r_v0 := r_v0.on (KT.same s_s5)
    replace r_v1 := r_v1.on (KT.same s_s5)
    replace r_e0 := r_e0.on (KT.same s_s5)
    replace r_s0 := r_s0.on (KT.same s_s5)
    replace r_e4 := r_e4.on (KT.same s_s5)
    replace r_s4 := r_s4.on (KT.same s_s5)
    replace r_e1 := r_e1.on (KT.same s_s5)
    replace r_s1 := r_s1.on (KT.same s_s5)
    replace r_sf := r_sf.on (KT.same s_s5)
    replace r_e5 := r_e5.on (KT.same s_s5)
    replace S := S.sm s_s5
    clear h_s5
    clear s_s5
    generalize (upd Hq12 s5 (.tup [.str "c", .int 0, .ref e5])) = Hq13 at hB1 hc r_v0 r_v1 r_e0 r_s0 r_e4 r_s4 r_e1 r_s1 r_sf r_e5 r_s5 S ⊢
    refine ⟨(show 1 ≤ sizeLine by decide), fun e6 h_e6 => ?_⟩
    have s_e6 : Sm Hq13 (upd Hq13 e6 (.tup [.ref s5])) := Sm.new h_e6
    have r_e6 : Rp K (upd Hq13 e6 (.tup [.ref s5])) (.ref e6) (.tuple _) := Rp.mk upd_same (RpAll.on (.cons r_s5 .nil) (KT.upd_new h_e6))
    replace hB1 := hB1.keep fun a o e _ => s_e6 a o e
    replace hc := hc.sm s_e6
    replace r_v0 := r_v0.on (KT.same s_e6)
    replace r_v1 := r_v1.on (KT.same s_e6)
    replace r_e0 := r_e0.on (KT.same s_e6)
    replace r_s0 := r_s0.on (KT.same s_e6)
    replace r_e4 := r_e4.on (KT.same s_e6)
    replace r_s4 := r_s4.on (KT.same s_e6)
    replace r_e1 := r_e1.on (KT.same s_e6)
    replace r_s1 := r_s1.on (KT.same s_e6)
    replace r_sf := r_sf.on (KT.same s_e6)
    replace r_e5 := r_e5.on (KT.same s_e6)
    replace r_s5 := r_s5.on (KT.same s_e6)
    replace S := S.sm s_e6
    clear h_e6
    clear s_e6
    generalize (upd Hq13 e6 (.tup [.ref s5])) = Hq14 at hB1 hc r_v0 r_v1 r_e0 r_s0 r_e4 r_s4 r_e1 r_s1 r_sf r_e5 r_s5 r_e6 S ⊢
    refine ⟨(show 3 ≤ sizeLine by decide), fun s6 h_s6 => ?_⟩
    have s_s6 : Sm Hq14 (upd Hq14 s6 (.tup [.str "c", .int 5, .ref e6])) := Sm.new h_s6
    have r_s6 : Rp K (upd Hq14 s6 (.tup [.str "c", .int 5, .ref e6])) (.ref s6) (.tuple _) := Rp.mk upd_same (RpAll.on (.cons sok (.cons (.int _) (.cons r_e6 .nil))) (KT.upd_new h_s6))
    replace hB1 := hB1.keep fun a o e _ => s_s6 a o e
    replace hc := hc.sm s_s6
    replace r_v0 := r_v0.on (KT.same s_s6)
    replace r_v1 := r_v1.on (KT.same s_s6)
    replace r_e0 := r_e0.on (KT.same s_s6)
    replace r_s0 := r_s0.on (KT.same s_s6)
    replace r_e4 := r_e4.on (KT.same s_s6)
    replace r_s4 := r_s4.on (KT.same s_s6)
    replace r_e1 := r_e1.on (KT.same s_s6)
    replace r_s1 := r_s1.on (KT.same s_s6)
    replace r_sf := r_sf.on (KT.same s_s6)
    replace r_e5 := r_e5.on (KT.same s_s6)
    replace r_s5 := r_s5.on (KT.same s_s6)
    replace r_e6 := r_e6.on (KT.same s_s6)
    replace S := S.sm s_s6
    clear h_s6
    clear s_s6
    generalize (upd Hq14 s6 (.tup [.str "c", .int 5, .ref e6])) = Hq15 at hB1 hc r_v0 r_v1 r_e0 r_s0 r_e4 r_s4 r_e1 r_s1 r_sf r_e5 r_s5 r_e6 r_s6 S ⊢
    refine ⟨(show 3 ≤ sizeLine by decide), fun L3 h_L3 => ?_⟩
    have s_L3 : Sm Hq15 (upd Hq15 L3 (.lst [.ref s0, .ref sf, .ref s6])) := Sm.new h_L3
    have o_L3 : (upd Hq15 L3 (.lst [.ref s0, .ref sf, .ref s6])) L3 = some (.lst [.ref s0, .ref sf, .ref s6]) := upd_same
    replace hB1 := hB1.keep fun a o e _ => s_L3 a o e
    replace hc := hc.sm s_L3
    replace r_v0 := r_v0.on (KT.same s_L3)
    replace r_v1 := r_v1.on (KT.same s_L3)
    replace r_e0 := r_e0.on (KT.same s_L3)
    replace r_s0 := r_s0.on (KT.same s_L3)
    replace r_e4 := r_e4.on (KT.same s_L3)
    replace r_s4 := r_s4.on (KT.same s_L3)
    replace r_e1 := r_e1.on (KT.same s_L3)
    replace r_s1 := r_s1.on (KT.same s_L3)
    replace r_sf := r_sf.on (KT.same s_L3)
    replace r_e5 := r_e5.on (KT.same s_L3)
    replace r_s5 := r_s5.on (KT.same s_L3)
    replace r_e6 := r_e6.on (KT.same s_L3)
    replace r_s6 := r_s6.on (KT.same s_L3)
    replace S := S.sm s_L3
    clear h_L3
    clear s_L3
    generalize (upd Hq15 L3 (.lst [.ref s0, .ref sf, .ref s6])) = Hq16 at hB1 hc r_v0 r_v1 r_e0 r_s0 r_e4 r_s4 r_e1 r_s1 r_sf r_e5 r_s5 r_e6 r_s6 o_L3 S ⊢
    refine ⟨_, rfl, b, c, 3, rfl, by decide, by decide, hB1, fun r3 H4 r30 r31 hx4 hB4 => ?_⟩
    replace hc := hc.bx hB1 hx4
    replace r_v0 := r_v0.on (hB1.kt hx4)
    replace r_v1 := r_v1.on (hB1.kt hx4)
    replace r_e0 := r_e0.on (hB1.kt hx4)
    replace r_s0 := r_s0.on (hB1.kt hx4)
    replace r_e4 := r_e4.on (hB1.kt hx4)
    replace r_s4 := r_s4.on (hB1.kt hx4)
    replace r_e1 := r_e1.on (hB1.kt hx4)
    replace r_s1 := r_s1.on (hB1.kt hx4)
    replace r_sf := r_sf.on (hB1.kt hx4)
    replace r_e5 := r_e5.on (hB1.kt hx4)
    replace r_s5 := r_s5.on (hB1.kt hx4)
    replace r_e6 := r_e6.on (hB1.kt hx4)
    replace r_s6 := r_s6.on (hB1.kt hx4)
    replace o_L3 := (hx4 _ (hB1.off2 o_L3).1 (hB1.off2 o_L3).2).trans o_L3
    replace S := S.bx hx4
    replace hB1 := hB4
    obtain ⟨so, sh, eso, hso, r_so⟩ : ∃ (so : Addr) (sh : Sh), atI [V.ref s0, .ref sf, .ref s6] r3 = some (.ref so) ∧ Some3 sh ∧ Rp K H4 (.ref so) sh.d := by
      rcases int3 r30 r31 with rfl | rfl | rfl
      · exact ⟨s0, _, at0, .a, by simpa [Sh.d, Sh.ds] using r_s0⟩
      · exact ⟨sf, _, at1, .b, by simpa [Sh.d, Sh.ds] using r_sf⟩
      · exact ⟨s6, _, at2, .c, by simpa [Sh.d, Sh.ds] using r_s6⟩
    refine ⟨L3, _, _, _, rfl, rfl, SqL.of o_L3, eso, ?_⟩
    clear o_L3 eso hx4 hB4 r_e0 r_s0 r_e4 r_s4 r_e1 r_s1 r_sf r_e5 r_s5 r_e6 r_s6
    have fs := f_so hso
    have hsm : ∀ {H : Hp}, Rp K H (.str sm) (.str sm) := .str _ osm
    have hcp : ∀ {H : Hp}, Rp K H (.str cp) (.str cp) := .str _ ocp
    -- a value
    refine ⟨_, rfl, rfl, _, rfl, ?_⟩
    rw [dec_i]
    by_cases k0 : kd = 0
    · rw [decide_eq_true k0]
      refine iteT (B := _) ?_
      refine ⟨_, rfl, _, rfl, (show 2 ≤ sizeLine by decide), fun a0 h_a0 => ?_⟩
      have s_a0 : Sm H4 (upd H4 a0 (.tup [.int 0, .ref so])) := Sm.new h_a0
      have r_a0 : Rp K (upd H4 a0 (.tup [.int 0, .ref so])) (.ref a0) (.tuple _) := Rp.mk upd_same (RpAll.on (.cons (.int _) (.cons r_so .nil)) (KT.upd_new h_a0))
      replace hB1 := hB1.keep fun a o e _ => s_a0 a o e
      replace hc := hc.sm s_a0
      replace r_v0 := r_v0.on (KT.same s_a0)
      replace r_v1 := r_v1.on (KT.same s_a0)
      replace r_so := r_so.on (KT.same s_a0)
      replace S := S.sm s_a0
      clear h_a0
      clear s_a0
      generalize (upd H4 a0 (.tup [.int 0, .ref so])) = Hq17 at hB1 hc r_v0 r_v1 r_so r_a0 S ⊢
      refine ⟨_, rfl, _, rfl, (show 3 ≤ sizeLine by decide), fun f1 h_f1 => ?_⟩
      have s_f1 : Sm Hq17 (upd Hq17 f1 (.tup [.str "f", .ref v0, .ref v0])) := Sm.new h_f1
      have r_f1 : Rp K (upd Hq17 f1 (.tup [.str "f", .ref v0, .ref v0])) (.ref f1) (.tuple _) := Rp.mk upd_same (RpAll.on (.cons sok (.cons r_v0 (.cons r_v0 .nil))) (KT.upd_new h_f1))
      replace hB1 := hB1.keep fun a o e _ => s_f1 a o e
      replace hc := hc.sm s_f1
      replace r_v0 := r_v0.on (KT.same s_f1)
      replace r_v1 := r_v1.on (KT.same s_f1)
      replace r_so := r_so.on (KT.same s_f1)
      replace r_a0 := r_a0.on (KT.same s_f1)
      replace S := S.sm s_f1
      clear h_f1
      clear s_f1
      generalize (upd Hq17 f1 (.tup [.str "f", .ref v0, .ref v0])) = Hq18 at hB1 hc r_v0 r_v1 r_so r_a0 r_f1 S ⊢
      refine ⟨(show 2 ≤ sizeLine by decide), fun a1 h_a1 => ?_⟩
      have s_a1 : Sm Hq18 (upd Hq18 a1 (.tup [.int 1, .ref f1])) := Sm.new h_a1
      have r_a1 : Rp K (upd Hq18 a1 (.tup [.int 1, .ref f1])) (.ref a1) (.tuple _) := Rp.mk upd_same (RpAll.on (.cons (.int _) (.cons r_f1 .nil)) (KT.upd_new h_a1))
      replace hB1 := hB1.keep fun a o e _ => s_a1 a o e
      replace hc := hc.sm s_a1
      replace r_v0 := r_v0.on (KT.same s_a1)
      replace r_v1 := r_v1.on (KT.same s_a1)
      replace r_so := r_so.on (KT.same s_a1)
      replace r_a0 := r_a0.on (KT.same s_a1)
      replace r_f1 := r_f1.on (KT.same s_a1)
      replace S := S.sm s_a1
      clear h_a1
      clear s_a1
      generalize (upd Hq18 a1 (.tup [.int 1, .ref f1])) = Hq19 at hB1 hc r_v0 r_v1 r_so r_a0 r_f1 r_a1 S ⊢
      refine ⟨_, rfl, _, rfl, _, rfl, (show 3 ≤ sizeLine by decide), fun g1 h_g1 => ?_⟩
      have s_g1 : Sm Hq19 (upd Hq19 g1 (.tup [.str "f", .ref v1, .ref so])) := Sm.new h_g1
      have r_g1 : Rp K (upd Hq19 g1 (.tup [.str "f", .ref v1, .ref so])) (.ref g1) (.tuple _) := Rp.mk upd_same (RpAll.on (.cons sok (.cons r_v1 (.cons r_so .nil))) (KT.upd_new h_g1))
      replace hB1 := hB1.keep fun a o e _ => s_g1 a o e
      replace hc := hc.sm s_g1
      replace r_v0 := r_v0.on (KT.same s_g1)
      replace r_v1 := r_v1.on (KT.same s_g1)
      replace r_so := r_so.on (KT.same s_g1)
      replace r_a0 := r_a0.on (KT.same s_g1)
      replace r_f1 := r_f1.on (KT.same s_g1)
      replace r_a1 := r_a1.on (KT.same s_g1)
      replace S := S.sm s_g1
      clear h_g1
      clear s_g1
      generalize (upd Hq19 g1 (.tup [.str "f", .ref v1, .ref so])) = Hq20 at hB1 hc r_v0 r_v1 r_so r_a0 r_f1 r_a1 r_g1 S ⊢
      refine ⟨(show 2 ≤ sizeLine by decide), fun g2 h_g2 => ?_⟩
      have s_g2 : Sm Hq20 (upd Hq20 g2 (.tup [.ref v0, .ref g1])) := Sm.new h_g2
      have r_g2 : Rp K (upd Hq20 g2 (.tup [.ref v0, .ref g1])) (.ref g2) (.tuple _) := Rp.mk upd_same (RpAll.on (.cons r_v0 (.cons r_g1 .nil)) (KT.upd_new h_g2))
      replace hB1 := hB1.keep fun a o e _ => s_g2 a o e
      replace hc := hc.sm s_g2
      replace r_v0 := r_v0.on (KT.same s_g2)
      replace r_v1 := r_v1.on (KT.same s_g2)
      replace r_so := r_so.on (KT.same s_g2)
      replace r_a0 := r_a0.on (KT.same s_g2)
      replace r_f1 := r_f1.on (KT.same s_g2)
      replace r_a1 := r_a1.on (KT.same s_g2)
      replace r_g1 := r_g1.on (KT.same s_g2)
      replace S := S.sm s_g2
      clear h_g2
      clear s_g2
      generalize (upd Hq20 g2 (.tup [.ref v0, .ref g1])) = Hq21 at hB1 hc r_v0 r_v1 r_so r_a0 r_f1 r_a1 r_g1 r_g2 S ⊢
      refine ⟨(show 2 ≤ sizeLine by decide), fun g3 h_g3 => ?_⟩
      have s_g3 : Sm Hq21 (upd Hq21 g3 (.tup [.str "t", .ref g2])) := Sm.new h_g3
      have r_g3 : Rp K (upd Hq21 g3 (.tup [.str "t", .ref g2])) (.ref g3) (.tuple _) := Rp.mk upd_same (RpAll.on (.cons sok (.cons r_g2 .nil)) (KT.upd_new h_g3))
      replace hB1 := hB1.keep fun a o e _ => s_g3 a o e
      replace hc := hc.sm s_g3
      replace r_v0 := r_v0.on (KT.same s_g3)
      replace r_v1 := r_v1.on (KT.same s_g3)
      replace r_so := r_so.on (KT.same s_g3)
      replace r_a0 := r_a0.on (KT.same s_g3)
      replace r_f1 := r_f1.on (KT.same s_g3)
      replace r_a1 := r_a1.on (KT.same s_g3)
      replace r_g1 := r_g1.on (KT.same s_g3)
      replace r_g2 := r_g2.on (KT.same s_g3)
      replace S := S.sm s_g3
      clear h_g3
      clear s_g3
      generalize (upd Hq21 g3 (.tup [.str "t", .ref g2])) = Hq22 at hB1 hc r_v0 r_v1 r_so r_a0 r_f1 r_a1 r_g1 r_g2 r_g3 S ⊢
      refine ⟨(show 2 ≤ sizeLine by decide), fun a2 h_a2 => ?_⟩
      have s_a2 : Sm Hq22 (upd Hq22 a2 (.tup [.int 2, .ref g3])) := Sm.new h_a2
      have r_a2 : Rp K (upd Hq22 a2 (.tup [.int 2, .ref g3])) (.ref a2) (.tuple _) := Rp.mk upd_same (RpAll.on (.cons (.int _) (.cons r_g3 .nil)) (KT.upd_new h_a2))
      replace hB1 := hB1.keep fun a o e _ => s_a2 a o e
      replace hc := hc.sm s_a2
      replace r_v0 := r_v0.on (KT.same s_a2)
      replace r_v1 := r_v1.on (KT.same s_a2)
      replace r_so := r_so.on (KT.same s_a2)
      replace r_a0 := r_a0.on (KT.same s_a2)
      replace r_f1 := r_f1.on (KT.same s_a2)
      replace r_a1 := r_a1.on (KT.same s_a2)
      replace r_g1 := r_g1.on (KT.same s_a2)
      replace r_g2 := r_g2.on (KT.same s_a2)
      replace r_g3 := r_g3.on (KT.same s_a2)
      replace S := S.sm s_a2
      clear h_a2
      clear s_a2
      generalize (upd Hq22 a2 (.tup [.int 2, .ref g3])) = Hq23 at hB1 hc r_v0 r_v1 r_so r_a0 r_f1 r_a1 r_g1 r_g2 r_g3 r_a2 S ⊢
      refine ⟨(show 3 ≤ sizeLine by decide), fun LV h_LV => ?_⟩
      have s_LV : Sm Hq23 (upd Hq23 LV (.lst [.ref a0, .ref a1, .ref a2])) := Sm.new h_LV
      have o_LV : (upd Hq23 LV (.lst [.ref a0, .ref a1, .ref a2])) LV = some (.lst [.ref a0, .ref a1, .ref a2]) := upd_same
      replace hB1 := hB1.keep fun a o e _ => s_LV a o e
      replace hc := hc.sm s_LV
      replace r_v0 := r_v0.on (KT.same s_LV)
      replace r_v1 := r_v1.on (KT.same s_LV)
      replace r_so := r_so.on (KT.same s_LV)
      replace r_a0 := r_a0.on (KT.same s_LV)
      replace r_f1 := r_f1.on (KT.same s_LV)
      replace r_a1 := r_a1.on (KT.same s_LV)
      replace r_g1 := r_g1.on (KT.same s_LV)
      replace r_g2 := r_g2.on (KT.same s_LV)
      replace r_g3 := r_g3.on (KT.same s_LV)
      replace r_a2 := r_a2.on (KT.same s_LV)
      replace S := S.sm s_LV
      clear h_LV
      clear s_LV
      generalize (upd Hq23 LV (.lst [.ref a0, .ref a1, .ref a2])) = Hq24 at hB1 hc r_v0 r_v1 r_so r_a0 r_f1 r_a1 r_g1 r_g2 r_g3 r_a2 o_LV S ⊢
      refine ⟨_, rfl, b, c, 3, rfl, by decide, by decide, hB1, fun r4 H5 r40 r41 hx5 hB5 => ?_⟩
      replace hc := hc.bx hB1 hx5
      replace r_v0 := r_v0.on (hB1.kt hx5)
      replace r_v1 := r_v1.on (hB1.kt hx5)
      replace r_so := r_so.on (hB1.kt hx5)
      replace r_a0 := r_a0.on (hB1.kt hx5)
      replace r_f1 := r_f1.on (hB1.kt hx5)
      replace r_a1 := r_a1.on (hB1.kt hx5)
      replace r_g1 := r_g1.on (hB1.kt hx5)
      replace r_g2 := r_g2.on (hB1.kt hx5)
      replace r_g3 := r_g3.on (hB1.kt hx5)
      replace r_a2 := r_a2.on (hB1.kt hx5)
      replace o_LV := (hx5 _ (hB1.off2 o_LV).1 (hB1.off2 o_LV).2).trans o_LV
      replace S := S.bx hx5
      replace hB1 := hB5
      rcases int3 r40 r41 with rfl | rfl | rfl
      · refine ⟨LV, _, _, _, rfl, rfl, SqL.of o_LV, at0, ?_⟩
        refine ⟨(show 3 ≤ sizeLine by decide), fun fin h_fin => ?_⟩
        have s_fin : Sm H5 (upd H5 fin (.tup [.str "val", .str sm, .ref a0])) := Sm.new h_fin
        have r_fin : Rp K (upd H5 fin (.tup [.str "val", .str sm, .ref a0])) (.ref fin) (.tuple _) := Rp.mk upd_same (RpAll.on (.cons sok (.cons hsm (.cons r_a0 .nil))) (KT.upd_new h_fin))
        replace hB1 := hB1.keep fun a o e _ => s_fin a o e
        replace hc := hc.sm s_fin
        replace r_v0 := r_v0.on (KT.same s_fin)
        replace r_v1 := r_v1.on (KT.same s_fin)
        replace r_so := r_so.on (KT.same s_fin)
        replace r_a0 := r_a0.on (KT.same s_fin)
        replace r_f1 := r_f1.on (KT.same s_fin)
        replace r_a1 := r_a1.on (KT.same s_fin)
        replace r_g1 := r_g1.on (KT.same s_fin)
        replace r_g2 := r_g2.on (KT.same s_fin)
        replace r_g3 := r_g3.on (KT.same s_fin)
        replace r_a2 := r_a2.on (KT.same s_fin)
        replace o_LV := s_fin _ _ o_LV
        replace S := S.sm s_fin
        clear h_fin
        clear s_fin
        generalize (upd H5 fin (.tup [.str "val", .str sm, .ref a0])) = Hq25 at hB1 hc r_v0 r_v1 r_so r_a0 r_f1 r_a1 r_g1 r_g2 r_g3 r_a2 o_LV r_fin S ⊢
        exact k _ _ (.val sm 0 sh) cn S hB1 hc (by omega) (by omega) (by simpa only [En.d] using r_fin) (wf_val lsm fs) (by simp only [En.dep]; omega)
      · refine ⟨LV, _, _, _, rfl, rfl, SqL.of o_LV, at1, ?_⟩
        refine ⟨(show 3 ≤ sizeLine by decide), fun fin h_fin => ?_⟩
        have s_fin : Sm H5 (upd H5 fin (.tup [.str "val", .str sm, .ref a1])) := Sm.new h_fin
        have r_fin : Rp K (upd H5 fin (.tup [.str "val", .str sm, .ref a1])) (.ref fin) (.tuple _) := Rp.mk upd_same (RpAll.on (.cons sok (.cons hsm (.cons r_a1 .nil))) (KT.upd_new h_fin))
        replace hB1 := hB1.keep fun a o e _ => s_fin a o e
        replace hc := hc.sm s_fin
        replace r_v0 := r_v0.on (KT.same s_fin)
        replace r_v1 := r_v1.on (KT.same s_fin)
        replace r_so := r_so.on (KT.same s_fin)
        replace r_a0 := r_a0.on (KT.same s_fin)
        replace r_f1 := r_f1.on (KT.same s_fin)
        replace r_a1 := r_a1.on (KT.same s_fin)
        replace r_g1 := r_g1.on (KT.same s_fin)
        replace r_g2 := r_g2.on (KT.same s_fin)
        replace r_g3 := r_g3.on (KT.same s_fin)
        replace r_a2 := r_a2.on (KT.same s_fin)
        replace o_LV := s_fin _ _ o_LV
        replace S := S.sm s_fin
        clear h_fin
        clear s_fin
        generalize (upd H5 fin (.tup [.str "val", .str sm, .ref a1])) = Hq26 at hB1 hc r_v0 r_v1 r_so r_a0 r_f1 r_a1 r_g1 r_g2 r_g3 r_a2 o_LV r_fin S ⊢
        exact k _ _ (.val sm 1 (.f (.v 0) (.v 0))) cn S hB1 hc (by omega) (by omega) (by simpa only [En.d, Sh.d] using r_fin) (wf_val lsm f_v2) (by simp only [En.dep]; omega)
      · refine ⟨LV, _, _, _, rfl, rfl, SqL.of o_LV, at2, ?_⟩
        refine ⟨(show 3 ≤ sizeLine by decide), fun fin h_fin => ?_⟩
        have s_fin : Sm H5 (upd H5 fin (.tup [.str "val", .str sm, .ref a2])) := Sm.new h_fin
        have r_fin : Rp K (upd H5 fin (.tup [.str "val", .str sm, .ref a2])) (.ref fin) (.tuple _) := Rp.mk upd_same (RpAll.on (.cons sok (.cons hsm (.cons r_a2 .nil))) (KT.upd_new h_fin))
        replace hB1 := hB1.keep fun a o e _ => s_fin a o e
        replace hc := hc.sm s_fin
        replace r_v0 := r_v0.on (KT.same s_fin)
        replace r_v1 := r_v1.on (KT.same s_fin)
        replace r_so := r_so.on (KT.same s_fin)
        replace r_a0 := r_a0.on (KT.same s_fin)
        replace r_f1 := r_f1.on (KT.same s_fin)
        replace r_a1 := r_a1.on (KT.same s_fin)
        replace r_g1 := r_g1.on (KT.same s_fin)
        replace r_g2 := r_g2.on (KT.same s_fin)
        replace r_g3 := r_g3.on (KT.same s_fin)
        replace r_a2 := r_a2.on (KT.same s_fin)
        replace o_LV := s_fin _ _ o_LV
        replace S := S.sm s_fin
        clear h_fin
        clear s_fin
        generalize (upd H5 fin (.tup [.str "val", .str sm, .ref a2])) = Hq27 at hB1 hc r_v0 r_v1 r_so r_a0 r_f1 r_a1 r_g1 r_g2 r_g3 r_a2 o_LV r_fin S ⊢
        exact k _ _ (.val sm 2 (.t [.v 0, .f (.v 1) sh])) cn S hB1 hc (by omega) (by omega) (by simpa only [En.d, Sh.d, Sh.ds] using r_fin) (wf_val lsm (f_v3 hso)) (by simp only [En.dep]; omega)
    rw [decide_eq_false k0]
    refine iteF (A := _) ?_
    -- a constructor
    refine ⟨_, rfl, rfl, _, rfl, ?_⟩
    rw [dec_i]
    by_cases k1 : kd = 1
    · rw [decide_eq_true k1]
      refine iteT (B := _) ?_
      refine ⟨_, rfl, _, rfl, (show 3 ≤ sizeLine by decide), fun LA h_LA => ?_⟩
      have s_LA : Sm H4 (upd H4 LA (.lst [.non, .ref so, .ref v0])) := Sm.new h_LA
      have o_LA : (upd H4 LA (.lst [.non, .ref so, .ref v0])) LA = some (.lst [.non, .ref so, .ref v0]) := upd_same
      replace hB1 := hB1.keep fun a o e _ => s_LA a o e
      replace hc := hc.sm s_LA
      replace r_v0 := r_v0.on (KT.same s_LA)
      replace r_v1 := r_v1.on (KT.same s_LA)
      replace r_so := r_so.on (KT.same s_LA)
      replace S := S.sm s_LA
      clear h_LA
      clear s_LA
      generalize (upd H4 LA (.lst [.non, .ref so, .ref v0])) = Hq28 at hB1 hc r_v0 r_v1 r_so o_LA S ⊢
      refine ⟨_, rfl, b, c, 3, rfl, by decide, by decide, hB1, fun r4 H5 r40 r41 hx5 hB5 => ?_⟩
      replace hc := hc.bx hB1 hx5
      replace r_v0 := r_v0.on (hB1.kt hx5)
      replace r_v1 := r_v1.on (hB1.kt hx5)
      replace r_so := r_so.on (hB1.kt hx5)
      replace o_LA := (hx5 _ (hB1.off2 o_LA).1 (hB1.off2 o_LA).2).trans o_LA
      replace S := S.bx hx5
      replace hB1 := hB5
      rcases int3 r40 r41 with rfl | rfl | rfl
      · refine ⟨LA, _, _, _, rfl, rfl, SqL.of o_LA, at0, ?_⟩
        refine ⟨_, rfl, (show 1 ≤ sizeLine by decide), fun w1 h_w1 => ?_⟩
        have s_w1 : Sm H5 (upd H5 w1 (.tup [.ref v0])) := Sm.new h_w1
        have r_w1 : Rp K (upd H5 w1 (.tup [.ref v0])) (.ref w1) (.tuple _) := Rp.mk upd_same (RpAll.on (.cons r_v0 .nil) (KT.upd_new h_w1))
        replace hB1 := hB1.keep fun a o e _ => s_w1 a o e
        replace hc := hc.sm s_w1
        replace r_v0 := r_v0.on (KT.same s_w1)
        replace r_v1 := r_v1.on (KT.same s_w1)
        replace r_so := r_so.on (KT.same s_w1)
        replace o_LA := s_w1 _ _ o_LA
        replace S := S.sm s_w1
        clear h_w1
        clear s_w1
        generalize (upd H5 w1 (.tup [.ref v0])) = Hq29 at hB1 hc r_v0 r_v1 r_so o_LA r_w1 S ⊢
        refine ⟨(show 3 ≤ sizeLine by decide), fun w2 h_w2 => ?_⟩
        have s_w2 : Sm Hq29 (upd Hq29 w2 (.tup [.str "c", .int 6, .ref w1])) := Sm.new h_w2
        have r_w2 : Rp K (upd Hq29 w2 (.tup [.str "c", .int 6, .ref w1])) (.ref w2) (.tuple _) := Rp.mk upd_same (RpAll.on (.cons sok (.cons (.int _) (.cons r_w1 .nil))) (KT.upd_new h_w2))
        replace hB1 := hB1.keep fun a o e _ => s_w2 a o e
        replace hc := hc.sm s_w2
        replace r_v0 := r_v0.on (KT.same s_w2)
        replace r_v1 := r_v1.on (KT.same s_w2)
        replace r_so := r_so.on (KT.same s_w2)
        replace o_LA := s_w2 _ _ o_LA
        replace r_w1 := r_w1.on (KT.same s_w2)
        replace S := S.sm s_w2
        clear h_w2
        clear s_w2
        generalize (upd Hq29 w2 (.tup [.str "c", .int 6, .ref w1])) = Hq30 at hB1 hc r_v0 r_v1 r_so o_LA r_w1 r_w2 S ⊢
        refine ⟨_, rfl, _, rfl, _, rfl, _, rfl, _, rfl, rfl, (show 2 ≤ sizeLine by decide), fun c1 h_c1 => ?_⟩
        have s_c1 : Sm Hq30 (upd Hq30 c1 (.tup [.str cp, .bl (!decide (V.non = V.non))])) := Sm.new h_c1
        have r_c1 : Rp K (upd Hq30 c1 (.tup [.str cp, .bl (!decide (V.non = V.non))])) (.ref c1) (.tuple _) := Rp.mk upd_same (RpAll.on (.cons hcp (.cons (.bl _) .nil)) (KT.upd_new h_c1))
        replace hB1 := hB1.keep fun a o e _ => s_c1 a o e
        replace hc := hc.sm s_c1
        replace r_v0 := r_v0.on (KT.same s_c1)
        replace r_v1 := r_v1.on (KT.same s_c1)
        replace r_so := r_so.on (KT.same s_c1)
        replace o_LA := s_c1 _ _ o_LA
        replace r_w1 := r_w1.on (KT.same s_c1)
        replace r_w2 := r_w2.on (KT.same s_c1)
        replace S := S.sm s_c1
        clear h_c1
        clear s_c1
        generalize (upd Hq30 c1 (.tup [.str cp, .bl (!decide (V.non = V.non))])) = Hq31 at hB1 hc r_v0 r_v1 r_so o_LA r_w1 r_w2 r_c1 S ⊢
        refine ⟨(show 1 ≤ sizeLine by decide), fun c2 h_c2 => ?_⟩
        have s_c2 : Sm Hq31 (upd Hq31 c2 (.tup [.ref c1])) := Sm.new h_c2
        have r_c2 : Rp K (upd Hq31 c2 (.tup [.ref c1])) (.ref c2) (.tuple _) := Rp.mk upd_same (RpAll.on (.cons r_c1 .nil) (KT.upd_new h_c2))
        replace hB1 := hB1.keep fun a o e _ => s_c2 a o e
        replace hc := hc.sm s_c2
        replace r_v0 := r_v0.on (KT.same s_c2)
        replace r_v1 := r_v1.on (KT.same s_c2)
        replace r_so := r_so.on (KT.same s_c2)
        replace o_LA := s_c2 _ _ o_LA
        replace r_w1 := r_w1.on (KT.same s_c2)
        replace r_w2 := r_w2.on (KT.same s_c2)
        replace r_c1 := r_c1.on (KT.same s_c2)
        replace S := S.sm s_c2
        clear h_c2
        clear s_c2
        generalize (upd Hq31 c2 (.tup [.ref c1])) = Hq32 at hB1 hc r_v0 r_v1 r_so o_LA r_w1 r_w2 r_c1 r_c2 S ⊢
        refine ⟨(show 7 ≤ sizeLine by decide), fun fin h_fin => ?_⟩
        have s_fin : Sm Hq32 (upd Hq32 fin (.tup [.str "con", .str cp, .int 1, V.non, .ref w2, .int 0, .ref c2])) := Sm.new h_fin
        have r_fin : Rp K (upd Hq32 fin (.tup [.str "con", .str cp, .int 1, V.non, .ref w2, .int 0, .ref c2])) (.ref fin) (.tuple _) := Rp.mk upd_same (RpAll.on (.cons sok (.cons hcp (.cons (.int _) (.cons .non (.cons r_w2 (.cons (.int _) (.cons r_c2 .nil))))))) (KT.upd_new h_fin))
        replace hB1 := hB1.keep fun a o e _ => s_fin a o e
        replace hc := hc.sm s_fin
        replace r_v0 := r_v0.on (KT.same s_fin)
        replace r_v1 := r_v1.on (KT.same s_fin)
        replace r_so := r_so.on (KT.same s_fin)
        replace o_LA := s_fin _ _ o_LA
        replace r_w1 := r_w1.on (KT.same s_fin)
        replace r_w2 := r_w2.on (KT.same s_fin)
        replace r_c1 := r_c1.on (KT.same s_fin)
        replace r_c2 := r_c2.on (KT.same s_fin)
        replace S := S.sm s_fin
        clear h_fin
        clear s_fin
        generalize (upd Hq32 fin (.tup [.str "con", .str cp, .int 1, V.non, .ref w2, .int 0, .ref c2])) = Hq33 at hB1 hc r_v0 r_v1 r_so o_LA r_w1 r_w2 r_c1 r_c2 r_fin S ⊢
        exact k _ _ (.con cp 1 none (.c 6 [.v 0]) 0 (.tuple [.tuple [.str cp, .bool (!decide (V.non = V.non))]])) cn S hB1 hc (by omega) (by omega) (by simpa only [En.d, argD, Sh.d, Sh.ds] using r_fin) (wf_con lcp f_c0.1 f_c0.2) (by simp only [En.dep]; omega)
      · refine ⟨LA, _, _, _, rfl, rfl, SqL.of o_LA, at1, ?_⟩
        refine ⟨_, rfl, (show 1 ≤ sizeLine by decide), fun w1 h_w1 => ?_⟩
        have s_w1 : Sm H5 (upd H5 w1 (.tup [.ref v0])) := Sm.new h_w1
        have r_w1 : Rp K (upd H5 w1 (.tup [.ref v0])) (.ref w1) (.tuple _) := Rp.mk upd_same (RpAll.on (.cons r_v0 .nil) (KT.upd_new h_w1))
        replace hB1 := hB1.keep fun a o e _ => s_w1 a o e
        replace hc := hc.sm s_w1
        replace r_v0 := r_v0.on (KT.same s_w1)
        replace r_v1 := r_v1.on (KT.same s_w1)
        replace r_so := r_so.on (KT.same s_w1)
        replace o_LA := s_w1 _ _ o_LA
        replace S := S.sm s_w1
        clear h_w1
        clear s_w1
        generalize (upd H5 w1 (.tup [.ref v0])) = Hq34 at hB1 hc r_v0 r_v1 r_so o_LA r_w1 S ⊢
        refine ⟨(show 3 ≤ sizeLine by decide), fun w2 h_w2 => ?_⟩
        have s_w2 : Sm Hq34 (upd Hq34 w2 (.tup [.str "c", .int 6, .ref w1])) := Sm.new h_w2
        have r_w2 : Rp K (upd Hq34 w2 (.tup [.str "c", .int 6, .ref w1])) (.ref w2) (.tuple _) := Rp.mk upd_same (RpAll.on (.cons sok (.cons (.int _) (.cons r_w1 .nil))) (KT.upd_new h_w2))
        replace hB1 := hB1.keep fun a o e _ => s_w2 a o e
        replace hc := hc.sm s_w2
        replace r_v0 := r_v0.on (KT.same s_w2)
        replace r_v1 := r_v1.on (KT.same s_w2)
        replace r_so := r_so.on (KT.same s_w2)
        replace o_LA := s_w2 _ _ o_LA
        replace r_w1 := r_w1.on (KT.same s_w2)
        replace S := S.sm s_w2
        clear h_w2
        clear s_w2
        generalize (upd Hq34 w2 (.tup [.str "c", .int 6, .ref w1])) = Hq35 at hB1 hc r_v0 r_v1 r_so o_LA r_w1 r_w2 S ⊢
        refine ⟨_, rfl, _, rfl, _, rfl, _, rfl, _, rfl, rfl, (show 2 ≤ sizeLine by decide), fun c1 h_c1 => ?_⟩
        have s_c1 : Sm Hq35 (upd Hq35 c1 (.tup [.str cp, .bl (!decide (V.ref so = V.non))])) := Sm.new h_c1
        have r_c1 : Rp K (upd Hq35 c1 (.tup [.str cp, .bl (!decide (V.ref so = V.non))])) (.ref c1) (.tuple _) := Rp.mk upd_same (RpAll.on (.cons hcp (.cons (.bl _) .nil)) (KT.upd_new h_c1))
        replace hB1 := hB1.keep fun a o e _ => s_c1 a o e
        replace hc := hc.sm s_c1
        replace r_v0 := r_v0.on (KT.same s_c1)
        replace r_v1 := r_v1.on (KT.same s_c1)
        replace r_so := r_so.on (KT.same s_c1)
        replace o_LA := s_c1 _ _ o_LA
        replace r_w1 := r_w1.on (KT.same s_c1)
        replace r_w2 := r_w2.on (KT.same s_c1)
        replace S := S.sm s_c1
        clear h_c1
        clear s_c1
        generalize (upd Hq35 c1 (.tup [.str cp, .bl (!decide (V.ref so = V.non))])) = Hq36 at hB1 hc r_v0 r_v1 r_so o_LA r_w1 r_w2 r_c1 S ⊢
        refine ⟨(show 1 ≤ sizeLine by decide), fun c2 h_c2 => ?_⟩
        have s_c2 : Sm Hq36 (upd Hq36 c2 (.tup [.ref c1])) := Sm.new h_c2
        have r_c2 : Rp K (upd Hq36 c2 (.tup [.ref c1])) (.ref c2) (.tuple _) := Rp.mk upd_same (RpAll.on (.cons r_c1 .nil) (KT.upd_new h_c2))
        replace hB1 := hB1.keep fun a o e _ => s_c2 a o e
        replace hc := hc.sm s_c2
        replace r_v0 := r_v0.on (KT.same s_c2)
        replace r_v1 := r_v1.on (KT.same s_c2)
        replace r_so := r_so.on (KT.same s_c2)
        replace o_LA := s_c2 _ _ o_LA
        replace r_w1 := r_w1.on (KT.same s_c2)
        replace r_w2 := r_w2.on (KT.same s_c2)
        replace r_c1 := r_c1.on (KT.same s_c2)
        replace S := S.sm s_c2
        clear h_c2
        clear s_c2
        generalize (upd Hq36 c2 (.tup [.ref c1])) = Hq37 at hB1 hc r_v0 r_v1 r_so o_LA r_w1 r_w2 r_c1 r_c2 S ⊢
        refine ⟨(show 7 ≤ sizeLine by decide), fun fin h_fin => ?_⟩
        have s_fin : Sm Hq37 (upd Hq37 fin (.tup [.str "con", .str cp, .int 1, V.ref so, .ref w2, .int 0, .ref c2])) := Sm.new h_fin
        have r_fin : Rp K (upd Hq37 fin (.tup [.str "con", .str cp, .int 1, V.ref so, .ref w2, .int 0, .ref c2])) (.ref fin) (.tuple _) := Rp.mk upd_same (RpAll.on (.cons sok (.cons hcp (.cons (.int _) (.cons r_so (.cons r_w2 (.cons (.int _) (.cons r_c2 .nil))))))) (KT.upd_new h_fin))
        replace hB1 := hB1.keep fun a o e _ => s_fin a o e
        replace hc := hc.sm s_fin
        replace r_v0 := r_v0.on (KT.same s_fin)
        replace r_v1 := r_v1.on (KT.same s_fin)
        replace r_so := r_so.on (KT.same s_fin)
        replace o_LA := s_fin _ _ o_LA
        replace r_w1 := r_w1.on (KT.same s_fin)
        replace r_w2 := r_w2.on (KT.same s_fin)
        replace r_c1 := r_c1.on (KT.same s_fin)
        replace r_c2 := r_c2.on (KT.same s_fin)
        replace S := S.sm s_fin
        clear h_fin
        clear s_fin
        generalize (upd Hq37 fin (.tup [.str "con", .str cp, .int 1, V.ref so, .ref w2, .int 0, .ref c2])) = Hq38 at hB1 hc r_v0 r_v1 r_so o_LA r_w1 r_w2 r_c1 r_c2 r_fin S ⊢
        exact k _ _ (.con cp 1 (some sh) (.c 6 [.v 0]) 0 (.tuple [.tuple [.str cp, .bool (!decide (V.ref so = V.non))]])) cn S hB1 hc (by omega) (by omega) (by simpa only [En.d, argD, Sh.d, Sh.ds] using r_fin) (wf_con lcp (f_c1 hso).1 (f_c1 hso).2) (by simp only [En.dep]; omega)
      · refine ⟨LA, _, _, _, rfl, rfl, SqL.of o_LA, at2, ?_⟩
        refine ⟨_, rfl, (show 1 ≤ sizeLine by decide), fun w1 h_w1 => ?_⟩
        have s_w1 : Sm H5 (upd H5 w1 (.tup [.ref v0])) := Sm.new h_w1
        have r_w1 : Rp K (upd H5 w1 (.tup [.ref v0])) (.ref w1) (.tuple _) := Rp.mk upd_same (RpAll.on (.cons r_v0 .nil) (KT.upd_new h_w1))
        replace hB1 := hB1.keep fun a o e _ => s_w1 a o e
        replace hc := hc.sm s_w1
        replace r_v0 := r_v0.on (KT.same s_w1)
        replace r_v1 := r_v1.on (KT.same s_w1)
        replace r_so := r_so.on (KT.same s_w1)
        replace o_LA := s_w1 _ _ o_LA
        replace S := S.sm s_w1
        clear h_w1
        clear s_w1
        generalize (upd H5 w1 (.tup [.ref v0])) = Hq39 at hB1 hc r_v0 r_v1 r_so o_LA r_w1 S ⊢
        refine ⟨(show 3 ≤ sizeLine by decide), fun w2 h_w2 => ?_⟩
        have s_w2 : Sm Hq39 (upd Hq39 w2 (.tup [.str "c", .int 6, .ref w1])) := Sm.new h_w2
        have r_w2 : Rp K (upd Hq39 w2 (.tup [.str "c", .int 6, .ref w1])) (.ref w2) (.tuple _) := Rp.mk upd_same (RpAll.on (.cons sok (.cons (.int _) (.cons r_w1 .nil))) (KT.upd_new h_w2))
        replace hB1 := hB1.keep fun a o e _ => s_w2 a o e
        replace hc := hc.sm s_w2
        replace r_v0 := r_v0.on (KT.same s_w2)
        replace r_v1 := r_v1.on (KT.same s_w2)
        replace r_so := r_so.on (KT.same s_w2)
        replace o_LA := s_w2 _ _ o_LA
        replace r_w1 := r_w1.on (KT.same s_w2)
        replace S := S.sm s_w2
        clear h_w2
        clear s_w2
        generalize (upd Hq39 w2 (.tup [.str "c", .int 6, .ref w1])) = Hq40 at hB1 hc r_v0 r_v1 r_so o_LA r_w1 r_w2 S ⊢
        refine ⟨_, rfl, _, rfl, _, rfl, _, rfl, _, rfl, rfl, (show 2 ≤ sizeLine by decide), fun c1 h_c1 => ?_⟩
        have s_c1 : Sm Hq40 (upd Hq40 c1 (.tup [.str cp, .bl (!decide (V.ref v0 = V.non))])) := Sm.new h_c1
        have r_c1 : Rp K (upd Hq40 c1 (.tup [.str cp, .bl (!decide (V.ref v0 = V.non))])) (.ref c1) (.tuple _) := Rp.mk upd_same (RpAll.on (.cons hcp (.cons (.bl _) .nil)) (KT.upd_new h_c1))
        replace hB1 := hB1.keep fun a o e _ => s_c1 a o e
        replace hc := hc.sm s_c1
        replace r_v0 := r_v0.on (KT.same s_c1)
        replace r_v1 := r_v1.on (KT.same s_c1)
        replace r_so := r_so.on (KT.same s_c1)
        replace o_LA := s_c1 _ _ o_LA
        replace r_w1 := r_w1.on (KT.same s_c1)
        replace r_w2 := r_w2.on (KT.same s_c1)
        replace S := S.sm s_c1
        clear h_c1
        clear s_c1
        generalize (upd Hq40 c1 (.tup [.str cp, .bl (!decide (V.ref v0 = V.non))])) = Hq41 at hB1 hc r_v0 r_v1 r_so o_LA r_w1 r_w2 r_c1 S ⊢
        refine ⟨(show 1 ≤ sizeLine by decide), fun c2 h_c2 => ?_⟩
        have s_c2 : Sm Hq41 (upd Hq41 c2 (.tup [.ref c1])) := Sm.new h_c2
        have r_c2 : Rp K (upd Hq41 c2 (.tup [.ref c1])) (.ref c2) (.tuple _) := Rp.mk upd_same (RpAll.on (.cons r_c1 .nil) (KT.upd_new h_c2))
        replace hB1 := hB1.keep fun a o e _ => s_c2 a o e
        replace hc := hc.sm s_c2
        replace r_v0 := r_v0.on (KT.same s_c2)
        replace r_v1 := r_v1.on (KT.same s_c2)
        replace r_so := r_so.on (KT.same s_c2)
        replace o_LA := s_c2 _ _ o_LA
        replace r_w1 := r_w1.on (KT.same s_c2)
        replace r_w2 := r_w2.on (KT.same s_c2)
        replace r_c1 := r_c1.on (KT.same s_c2)
        replace S := S.sm s_c2
        clear h_c2
        clear s_c2
        generalize (upd Hq41 c2 (.tup [.ref c1])) = Hq42 at hB1 hc r_v0 r_v1 r_so o_LA r_w1 r_w2 r_c1 r_c2 S ⊢
        refine ⟨(show 7 ≤ sizeLine by decide), fun fin h_fin => ?_⟩
        have s_fin : Sm Hq42 (upd Hq42 fin (.tup [.str "con", .str cp, .int 1, V.ref v0, .ref w2, .int 0, .ref c2])) := Sm.new h_fin
        have r_fin : Rp K (upd Hq42 fin (.tup [.str "con", .str cp, .int 1, V.ref v0, .ref w2, .int 0, .ref c2])) (.ref fin) (.tuple _) := Rp.mk upd_same (RpAll.on (.cons sok (.cons hcp (.cons (.int _) (.cons r_v0 (.cons r_w2 (.cons (.int _) (.cons r_c2 .nil))))))) (KT.upd_new h_fin))
        replace hB1 := hB1.keep fun a o e _ => s_fin a o e
        replace hc := hc.sm s_fin
        replace r_v0 := r_v0.on (KT.same s_fin)
        replace r_v1 := r_v1.on (KT.same s_fin)
        replace r_so := r_so.on (KT.same s_fin)
        replace o_LA := s_fin _ _ o_LA
        replace r_w1 := r_w1.on (KT.same s_fin)
        replace r_w2 := r_w2.on (KT.same s_fin)
        replace r_c1 := r_c1.on (KT.same s_fin)
        replace r_c2 := r_c2.on (KT.same s_fin)
        replace S := S.sm s_fin
        clear h_fin
        clear s_fin
        generalize (upd Hq42 fin (.tup [.str "con", .str cp, .int 1, V.ref v0, .ref w2, .int 0, .ref c2])) = Hq43 at hB1 hc r_v0 r_v1 r_so o_LA r_w1 r_w2 r_c1 r_c2 r_fin S ⊢
        exact k _ _ (.con cp 1 (some (.v 0)) (.c 6 [.v 0]) 0 (.tuple [.tuple [.str cp, .bool (!decide (V.ref v0 = V.non))]])) cn S hB1 hc (by omega) (by omega) (by simpa only [En.d, argD, Sh.d, Sh.ds] using r_fin) (wf_con lcp f_c2.1 f_c2.2) (by simp only [En.dep]; omega)
    rw [decide_eq_false k1]
    refine iteF (A := _) ?_
    -- an exception
    refine ⟨_, rfl, rfl, _, rfl, ?_⟩
    rw [dec_i]
    by_cases k2 : kd = 2
    · rw [decide_eq_true k2]
      refine iteT (B := _) ?_
      refine ⟨_, rfl, _, rfl, (show 2 ≤ sizeLine by decide), fun LB h_LB => ?_⟩
      have s_LB : Sm H4 (upd H4 LB (.lst [.non, .ref so])) := Sm.new h_LB
      have o_LB : (upd H4 LB (.lst [.non, .ref so])) LB = some (.lst [.non, .ref so]) := upd_same
      replace hB1 := hB1.keep fun a o e _ => s_LB a o e
      replace hc := hc.sm s_LB
      replace r_v0 := r_v0.on (KT.same s_LB)
      replace r_v1 := r_v1.on (KT.same s_LB)
      replace r_so := r_so.on (KT.same s_LB)
      replace S := S.sm s_LB
      clear h_LB
      clear s_LB
      generalize (upd H4 LB (.lst [.non, .ref so])) = Hq44 at hB1 hc r_v0 r_v1 r_so o_LB S ⊢
      refine ⟨_, rfl, b, c, 2, rfl, by decide, by decide, hB1, fun r4 H5 r40 r41 hx5 hB5 => ?_⟩
      replace hc := hc.bx hB1 hx5
      replace r_v0 := r_v0.on (hB1.kt hx5)
      replace r_v1 := r_v1.on (hB1.kt hx5)
      replace r_so := r_so.on (hB1.kt hx5)
      replace o_LB := (hx5 _ (hB1.off2 o_LB).1 (hB1.off2 o_LB).2).trans o_LB
      replace S := S.bx hx5
      replace hB1 := hB5
      rcases int2 r40 r41 with rfl | rfl
      · refine ⟨LB, _, _, _, rfl, rfl, SqL.of o_LB, at0, ?_⟩
        refine ⟨(show 3 ≤ sizeLine by decide), fun fin h_fin => ?_⟩
        have s_fin : Sm H5 (upd H5 fin (.tup [.str "exn", .str cp, .non])) := Sm.new h_fin
        have r_fin : Rp K (upd H5 fin (.tup [.str "exn", .str cp, .non])) (.ref fin) (.tuple _) := Rp.mk upd_same (RpAll.on (.cons sok (.cons hcp (.cons .non .nil))) (KT.upd_new h_fin))
        replace hB1 := hB1.keep fun a o e _ => s_fin a o e
        replace hc := hc.sm s_fin
        replace r_v0 := r_v0.on (KT.same s_fin)
        replace r_v1 := r_v1.on (KT.same s_fin)
        replace r_so := r_so.on (KT.same s_fin)
        replace o_LB := s_fin _ _ o_LB
        replace S := S.sm s_fin
        clear h_fin
        clear s_fin
        generalize (upd H5 fin (.tup [.str "exn", .str cp, .non])) = Hq45 at hB1 hc r_v0 r_v1 r_so o_LB r_fin S ⊢
        exact k _ _ (.exn cp none) cn S hB1 hc (by omega) (by omega) (by simpa only [En.d, argD] using r_fin) (wf_exn0 lcp) (by simp only [En.dep]; omega)
      · refine ⟨LB, _, _, _, rfl, rfl, SqL.of o_LB, at1, ?_⟩
        refine ⟨(show 3 ≤ sizeLine by decide), fun fin h_fin => ?_⟩
        have s_fin : Sm H5 (upd H5 fin (.tup [.str "exn", .str cp, .ref so])) := Sm.new h_fin
        have r_fin : Rp K (upd H5 fin (.tup [.str "exn", .str cp, .ref so])) (.ref fin) (.tuple _) := Rp.mk upd_same (RpAll.on (.cons sok (.cons hcp (.cons r_so .nil))) (KT.upd_new h_fin))
        replace hB1 := hB1.keep fun a o e _ => s_fin a o e
        replace hc := hc.sm s_fin
        replace r_v0 := r_v0.on (KT.same s_fin)
        replace r_v1 := r_v1.on (KT.same s_fin)
        replace r_so := r_so.on (KT.same s_fin)
        replace o_LB := s_fin _ _ o_LB
        replace S := S.sm s_fin
        clear h_fin
        clear s_fin
        generalize (upd H5 fin (.tup [.str "exn", .str cp, .ref so])) = Hq46 at hB1 hc r_v0 r_v1 r_so o_LB r_fin S ⊢
        exact k _ _ (.exn cp (some sh)) cn S hB1 hc (by omega) (by omega) (by simpa only [En.d, argD] using r_fin) (wf_exn1 lcp fs) (by simp only [En.dep]; omega)
    rw [decide_eq_false k2]
    refine iteF (A := _) ?_
    -- a shape of its own
    refine ⟨_, rfl, rfl, _, rfl, ?_⟩
    rw [dec_i]
    by_cases k3 : kd = 3
    · rw [decide_eq_true k3]
      refine iteT (B := _) ?_
      refine ⟨_, rfl, s, _, _, _, rfl, rfl, SqL.of hc.at_, at0, _, _, rfl, rfl, ?_⟩
      refine ⟨_, rfl, s, _, _, 0, rfl, rfl, hc.at_, rfl, ?_⟩
      have kts : KT H4 (upd H4 s (.lst [.int (cn + 1)])) := KT.upd_lst (NT.lst hc.at_)
      have S' : Vs b c s H (upd H4 s (.lst [.int (cn + 1)])) := S.trans fun a o n1 n2 n3 e => by rw [upd_ne n3]; exact e
      have hB' : BoxAt (upd H4 s (.lst [.int (cn + 1)])) b c := hB1.keep fun a o e z => by
        rw [upd_ne (by rcases z with z | z <;> subst z <;> first | exact hc.nb.symm | exact hc.nc.symm)]
        exact e
      have hc' : CnAt (upd H4 s (.lst [.int (cn + 1)])) b c s (cn + 1) := ⟨hc.nb, hc.nc, upd_same⟩
      have r_v0' := r_v0.on kts
      have r_v1' := r_v1.on kts
      dsimp only [List.set]
      generalize (upd H4 s (.lst [.int (cn + 1)])) = Hs at S' hB' hc' r_v0' r_v1' ⊢
      clear kts
      refine ⟨(show 2 ≤ sizeLine by decide), fun LT h_LT => ?_⟩
      have s_LT : Sm Hs (upd Hs LT (.lst [.str "t", .str "u"])) := Sm.new h_LT
      have o_LT : (upd Hs LT (.lst [.str "t", .str "u"])) LT = some (.lst [.str "t", .str "u"]) := upd_same
      replace hB' := hB'.keep fun a o e _ => s_LT a o e
      replace hc' := hc'.sm s_LT
      replace r_v0' := r_v0'.on (KT.same s_LT)
      replace r_v1' := r_v1'.on (KT.same s_LT)
      replace S' := S'.sm s_LT
      clear h_LT
      clear s_LT
      generalize (upd Hs LT (.lst [.str "t", .str "u"])) = Hq47 at hB' hc' r_v0' r_v1' o_LT S' ⊢
      refine ⟨_, rfl, b, c, 2, rfl, by decide, by decide, hB', fun r4 H5 r40 r41 hx5 hB5 => ?_⟩
      replace hc' := hc'.bx hB' hx5
      replace r_v0' := r_v0'.on (hB'.kt hx5)
      replace r_v1' := r_v1'.on (hB'.kt hx5)
      replace o_LT := (hx5 _ (hB'.off2 o_LT).1 (hB'.off2 o_LT).2).trans o_LT
      replace S' := S'.bx hx5
      replace hB' := hB5
      obtain ⟨tn, etn, otn, ltn⟩ := str_at ["t", "u"] (by decide +kernel) r40 r41
      refine ⟨LT, _, _, _, rfl, rfl, SqL.of o_LT, etn, ?_⟩
      clear o_LT etn
      have htn : ∀ {H : Hp}, Rp K H (.str tn) (.str tn) := .str _ otn
      refine ⟨_, rfl, s, _, _, _, rfl, rfl, SqL.of hc'.at_, at0, _, rfl, _, rfl, (show 2 ≤ sizeLine by decide), fun q1 h_q1 => ?_⟩
      have s_q1 : Sm H5 (upd H5 q1 (.tup [.ref v0, .ref v1])) := Sm.new h_q1
      have r_q1 : Rp K (upd H5 q1 (.tup [.ref v0, .ref v1])) (.ref q1) (.tuple _) := Rp.mk upd_same (RpAll.on (.cons r_v0' (.cons r_v1' .nil)) (KT.upd_new h_q1))
      replace hB' := hB'.keep fun a o e _ => s_q1 a o e
      replace hc' := hc'.sm s_q1
      replace r_v0' := r_v0'.on (KT.same s_q1)
      replace r_v1' := r_v1'.on (KT.same s_q1)
      replace S' := S'.sm s_q1
      clear h_q1
      clear s_q1
      generalize (upd H5 q1 (.tup [.ref v0, .ref v1])) = Hq48 at hB' hc' r_v0' r_v1' r_q1 S' ⊢
      refine ⟨(show 3 ≤ sizeLine by decide), fun q2 h_q2 => ?_⟩
      have s_q2 : Sm Hq48 (upd Hq48 q2 (.tup [.str "c", .int (cn + 1), .ref q1])) := Sm.new h_q2
      have r_q2 : Rp K (upd Hq48 q2 (.tup [.str "c", .int (cn + 1), .ref q1])) (.ref q2) (.tuple _) := Rp.mk upd_same (RpAll.on (.cons sok (.cons (.int _) (.cons r_q1 .nil))) (KT.upd_new h_q2))
      replace hB' := hB'.keep fun a o e _ => s_q2 a o e
      replace hc' := hc'.sm s_q2
      replace r_v0' := r_v0'.on (KT.same s_q2)
      replace r_v1' := r_v1'.on (KT.same s_q2)
      replace r_q1 := r_q1.on (KT.same s_q2)
      replace S' := S'.sm s_q2
      clear h_q2
      clear s_q2
      generalize (upd Hq48 q2 (.tup [.str "c", .int (cn + 1), .ref q1])) = Hq49 at hB' hc' r_v0' r_v1' r_q1 r_q2 S' ⊢
      refine ⟨(show 4 ≤ sizeLine by decide), fun fin h_fin => ?_⟩
      have s_fin : Sm Hq49 (upd Hq49 fin (.tup [.str "shape", .str tn, .int 2, .ref q2])) := Sm.new h_fin
      have r_fin : Rp K (upd Hq49 fin (.tup [.str "shape", .str tn, .int 2, .ref q2])) (.ref fin) (.tuple _) := Rp.mk upd_same (RpAll.on (.cons sok (.cons htn (.cons (.int _) (.cons r_q2 .nil)))) (KT.upd_new h_fin))
      replace hB' := hB'.keep fun a o e _ => s_fin a o e
      replace hc' := hc'.sm s_fin
      replace r_v0' := r_v0'.on (KT.same s_fin)
      replace r_v1' := r_v1'.on (KT.same s_fin)
      replace r_q1 := r_q1.on (KT.same s_fin)
      replace r_q2 := r_q2.on (KT.same s_fin)
      replace S' := S'.sm s_fin
      clear h_fin
      clear s_fin
      generalize (upd Hq49 fin (.tup [.str "shape", .str tn, .int 2, .ref q2])) = Hq50 at hB' hc' r_v0' r_v1' r_q1 r_q2 r_fin S' ⊢
      exact k _ _ (.shp tn 2 (.c (cn + 1) [.v 0, .v 1])) (cn + 1) S' hB' hc' (by omega) (by omega) (by simpa [En.d, Sh.d, Sh.ds] using r_fin) (wf_shp ltn (by decide) (f_st (by omega) (by omega))) (by simp only [En.dep]; omega)
    rw [decide_eq_false k3]
    refine iteF (A := _) ?_
    -- a shape that stands for something
    refine ⟨_, rfl, rfl, _, rfl, ?_⟩
    rw [dec_i]
    by_cases k4 : kd = 4
    · rw [decide_eq_true k4]
      refine iteT (B := _) ?_
      refine ⟨(show 2 ≤ sizeLine by decide), fun LT h_LT => ?_⟩
      have s_LT : Sm H4 (upd H4 LT (.lst [.str "t", .str "u"])) := Sm.new h_LT
      have o_LT : (upd H4 LT (.lst [.str "t", .str "u"])) LT = some (.lst [.str "t", .str "u"]) := upd_same
      replace hB1 := hB1.keep fun a o e _ => s_LT a o e
      replace hc := hc.sm s_LT
      replace r_v0 := r_v0.on (KT.same s_LT)
      replace r_v1 := r_v1.on (KT.same s_LT)
      replace r_so := r_so.on (KT.same s_LT)
      replace S := S.sm s_LT
      clear h_LT
      clear s_LT
      generalize (upd H4 LT (.lst [.str "t", .str "u"])) = Hq51 at hB1 hc r_v0 r_v1 r_so o_LT S ⊢
      refine ⟨_, rfl, b, c, 2, rfl, by decide, by decide, hB1, fun r4 H5 r40 r41 hx5 hB5 => ?_⟩
      replace hc := hc.bx hB1 hx5
      replace r_v0 := r_v0.on (hB1.kt hx5)
      replace r_v1 := r_v1.on (hB1.kt hx5)
      replace r_so := r_so.on (hB1.kt hx5)
      replace o_LT := (hx5 _ (hB1.off2 o_LT).1 (hB1.off2 o_LT).2).trans o_LT
      replace S := S.bx hx5
      replace hB1 := hB5
      obtain ⟨tn, etn, otn, ltn⟩ := str_at ["t", "u"] (by decide +kernel) r40 r41
      refine ⟨LT, _, _, _, rfl, rfl, SqL.of o_LT, etn, ?_⟩
      clear o_LT etn
      have htn : ∀ {H : Hp}, Rp K H (.str tn) (.str tn) := .str _ otn
      refine ⟨_, rfl, _, rfl, (show 2 ≤ sizeLine by decide), fun p1 h_p1 => ?_⟩
      have s_p1 : Sm H5 (upd H5 p1 (.tup [.ref v1, .ref v0])) := Sm.new h_p1
      have r_p1 : Rp K (upd H5 p1 (.tup [.ref v1, .ref v0])) (.ref p1) (.tuple _) := Rp.mk upd_same (RpAll.on (.cons r_v1 (.cons r_v0 .nil)) (KT.upd_new h_p1))
      replace hB1 := hB1.keep fun a o e _ => s_p1 a o e
      replace hc := hc.sm s_p1
      replace r_v0 := r_v0.on (KT.same s_p1)
      replace r_v1 := r_v1.on (KT.same s_p1)
      replace r_so := r_so.on (KT.same s_p1)
      replace S := S.sm s_p1
      clear h_p1
      clear s_p1
      generalize (upd H5 p1 (.tup [.ref v1, .ref v0])) = Hq52 at hB1 hc r_v0 r_v1 r_so r_p1 S ⊢
      refine ⟨(show 2 ≤ sizeLine by decide), fun p2 h_p2 => ?_⟩
      have s_p2 : Sm Hq52 (upd Hq52 p2 (.tup [.str "t", .ref p1])) := Sm.new h_p2
      have r_p2 : Rp K (upd Hq52 p2 (.tup [.str "t", .ref p1])) (.ref p2) (.tuple _) := Rp.mk upd_same (RpAll.on (.cons sok (.cons r_p1 .nil)) (KT.upd_new h_p2))
      replace hB1 := hB1.keep fun a o e _ => s_p2 a o e
      replace hc := hc.sm s_p2
      replace r_v0 := r_v0.on (KT.same s_p2)
      replace r_v1 := r_v1.on (KT.same s_p2)
      replace r_so := r_so.on (KT.same s_p2)
      replace r_p1 := r_p1.on (KT.same s_p2)
      replace S := S.sm s_p2
      clear h_p2
      clear s_p2
      generalize (upd Hq52 p2 (.tup [.str "t", .ref p1])) = Hq53 at hB1 hc r_v0 r_v1 r_so r_p1 r_p2 S ⊢
      refine ⟨_, rfl, _, rfl, (show 2 ≤ sizeLine by decide), fun p3 h_p3 => ?_⟩
      have s_p3 : Sm Hq53 (upd Hq53 p3 (.tup [.ref v1, .ref v0])) := Sm.new h_p3
      have r_p3 : Rp K (upd Hq53 p3 (.tup [.ref v1, .ref v0])) (.ref p3) (.tuple _) := Rp.mk upd_same (RpAll.on (.cons r_v1 (.cons r_v0 .nil)) (KT.upd_new h_p3))
      replace hB1 := hB1.keep fun a o e _ => s_p3 a o e
      replace hc := hc.sm s_p3
      replace r_v0 := r_v0.on (KT.same s_p3)
      replace r_v1 := r_v1.on (KT.same s_p3)
      replace r_so := r_so.on (KT.same s_p3)
      replace r_p1 := r_p1.on (KT.same s_p3)
      replace r_p2 := r_p2.on (KT.same s_p3)
      replace S := S.sm s_p3
      clear h_p3
      clear s_p3
      generalize (upd Hq53 p3 (.tup [.ref v1, .ref v0])) = Hq54 at hB1 hc r_v0 r_v1 r_so r_p1 r_p2 r_p3 S ⊢
      refine ⟨(show 3 ≤ sizeLine by decide), fun p4 h_p4 => ?_⟩
      have s_p4 : Sm Hq54 (upd Hq54 p4 (.tup [.str "c", .int 9, .ref p3])) := Sm.new h_p4
      have r_p4 : Rp K (upd Hq54 p4 (.tup [.str "c", .int 9, .ref p3])) (.ref p4) (.tuple _) := Rp.mk upd_same (RpAll.on (.cons sok (.cons (.int _) (.cons r_p3 .nil))) (KT.upd_new h_p4))
      replace hB1 := hB1.keep fun a o e _ => s_p4 a o e
      replace hc := hc.sm s_p4
      replace r_v0 := r_v0.on (KT.same s_p4)
      replace r_v1 := r_v1.on (KT.same s_p4)
      replace r_so := r_so.on (KT.same s_p4)
      replace r_p1 := r_p1.on (KT.same s_p4)
      replace r_p2 := r_p2.on (KT.same s_p4)
      replace r_p3 := r_p3.on (KT.same s_p4)
      replace S := S.sm s_p4
      clear h_p4
      clear s_p4
      generalize (upd Hq54 p4 (.tup [.str "c", .int 9, .ref p3])) = Hq55 at hB1 hc r_v0 r_v1 r_so r_p1 r_p2 r_p3 r_p4 S ⊢
      refine ⟨_, rfl, (show 3 ≤ sizeLine by decide), fun LS h_LS => ?_⟩
      have s_LS : Sm Hq55 (upd Hq55 LS (.lst [.ref p2, .ref p4, .ref so])) := Sm.new h_LS
      have o_LS : (upd Hq55 LS (.lst [.ref p2, .ref p4, .ref so])) LS = some (.lst [.ref p2, .ref p4, .ref so]) := upd_same
      replace hB1 := hB1.keep fun a o e _ => s_LS a o e
      replace hc := hc.sm s_LS
      replace r_v0 := r_v0.on (KT.same s_LS)
      replace r_v1 := r_v1.on (KT.same s_LS)
      replace r_so := r_so.on (KT.same s_LS)
      replace r_p1 := r_p1.on (KT.same s_LS)
      replace r_p2 := r_p2.on (KT.same s_LS)
      replace r_p3 := r_p3.on (KT.same s_LS)
      replace r_p4 := r_p4.on (KT.same s_LS)
      replace S := S.sm s_LS
      clear h_LS
      clear s_LS
      generalize (upd Hq55 LS (.lst [.ref p2, .ref p4, .ref so])) = Hq56 at hB1 hc r_v0 r_v1 r_so r_p1 r_p2 r_p3 r_p4 o_LS S ⊢
      refine ⟨_, rfl, b, c, 3, rfl, by decide, by decide, hB1, fun r5 H6 r50 r51 hx6 hB6 => ?_⟩
      replace hc := hc.bx hB1 hx6
      replace r_v0 := r_v0.on (hB1.kt hx6)
      replace r_v1 := r_v1.on (hB1.kt hx6)
      replace r_so := r_so.on (hB1.kt hx6)
      replace r_p1 := r_p1.on (hB1.kt hx6)
      replace r_p2 := r_p2.on (hB1.kt hx6)
      replace r_p3 := r_p3.on (hB1.kt hx6)
      replace r_p4 := r_p4.on (hB1.kt hx6)
      replace o_LS := (hx6 _ (hB1.off2 o_LS).1 (hB1.off2 o_LS).2).trans o_LS
      replace S := S.bx hx6
      replace hB1 := hB6
      rcases int3 r50 r51 with rfl | rfl | rfl
      · refine ⟨LS, _, _, _, rfl, rfl, SqL.of o_LS, at0, ?_⟩
        refine ⟨(show 4 ≤ sizeLine by decide), fun fin h_fin => ?_⟩
        have s_fin : Sm H6 (upd H6 fin (.tup [.str "shape", .str tn, .int 2, .ref p2])) := Sm.new h_fin
        have r_fin : Rp K (upd H6 fin (.tup [.str "shape", .str tn, .int 2, .ref p2])) (.ref fin) (.tuple _) := Rp.mk upd_same (RpAll.on (.cons sok (.cons htn (.cons (.int _) (.cons r_p2 .nil)))) (KT.upd_new h_fin))
        replace hB1 := hB1.keep fun a o e _ => s_fin a o e
        replace hc := hc.sm s_fin
        replace r_v0 := r_v0.on (KT.same s_fin)
        replace r_v1 := r_v1.on (KT.same s_fin)
        replace r_so := r_so.on (KT.same s_fin)
        replace r_p1 := r_p1.on (KT.same s_fin)
        replace r_p2 := r_p2.on (KT.same s_fin)
        replace r_p3 := r_p3.on (KT.same s_fin)
        replace r_p4 := r_p4.on (KT.same s_fin)
        replace o_LS := s_fin _ _ o_LS
        replace S := S.sm s_fin
        clear h_fin
        clear s_fin
        generalize (upd H6 fin (.tup [.str "shape", .str tn, .int 2, .ref p2])) = Hq57 at hB1 hc r_v0 r_v1 r_so r_p1 r_p2 r_p3 r_p4 o_LS r_fin S ⊢
        exact k _ _ (.shp tn 2 (.t [.v 1, .v 0])) cn S hB1 hc (by omega) (by omega) (by simpa [En.d, Sh.d, Sh.ds] using r_fin) (wf_shp ltn (by decide) f_t) (by simp only [En.dep]; omega)
      · refine ⟨LS, _, _, _, rfl, rfl, SqL.of o_LS, at1, ?_⟩
        refine ⟨(show 4 ≤ sizeLine by decide), fun fin h_fin => ?_⟩
        have s_fin : Sm H6 (upd H6 fin (.tup [.str "shape", .str tn, .int 2, .ref p4])) := Sm.new h_fin
        have r_fin : Rp K (upd H6 fin (.tup [.str "shape", .str tn, .int 2, .ref p4])) (.ref fin) (.tuple _) := Rp.mk upd_same (RpAll.on (.cons sok (.cons htn (.cons (.int _) (.cons r_p4 .nil)))) (KT.upd_new h_fin))
        replace hB1 := hB1.keep fun a o e _ => s_fin a o e
        replace hc := hc.sm s_fin
        replace r_v0 := r_v0.on (KT.same s_fin)
        replace r_v1 := r_v1.on (KT.same s_fin)
        replace r_so := r_so.on (KT.same s_fin)
        replace r_p1 := r_p1.on (KT.same s_fin)
        replace r_p2 := r_p2.on (KT.same s_fin)
        replace r_p3 := r_p3.on (KT.same s_fin)
        replace r_p4 := r_p4.on (KT.same s_fin)
        replace o_LS := s_fin _ _ o_LS
        replace S := S.sm s_fin
        clear h_fin
        clear s_fin
        generalize (upd H6 fin (.tup [.str "shape", .str tn, .int 2, .ref p4])) = Hq58 at hB1 hc r_v0 r_v1 r_so r_p1 r_p2 r_p3 r_p4 o_LS r_fin S ⊢
        exact k _ _ (.shp tn 2 (.c 9 [.v 1, .v 0])) cn S hB1 hc (by omega) (by omega) (by simpa [En.d, Sh.d, Sh.ds] using r_fin) (wf_shp ltn (by decide) f_9) (by simp only [En.dep]; omega)
      · refine ⟨LS, _, _, _, rfl, rfl, SqL.of o_LS, at2, ?_⟩
        refine ⟨(show 4 ≤ sizeLine by decide), fun fin h_fin => ?_⟩
        have s_fin : Sm H6 (upd H6 fin (.tup [.str "shape", .str tn, .int 2, .ref so])) := Sm.new h_fin
        have r_fin : Rp K (upd H6 fin (.tup [.str "shape", .str tn, .int 2, .ref so])) (.ref fin) (.tuple _) := Rp.mk upd_same (RpAll.on (.cons sok (.cons htn (.cons (.int _) (.cons r_so .nil)))) (KT.upd_new h_fin))
        replace hB1 := hB1.keep fun a o e _ => s_fin a o e
        replace hc := hc.sm s_fin
        replace r_v0 := r_v0.on (KT.same s_fin)
        replace r_v1 := r_v1.on (KT.same s_fin)
        replace r_so := r_so.on (KT.same s_fin)
        replace r_p1 := r_p1.on (KT.same s_fin)
        replace r_p2 := r_p2.on (KT.same s_fin)
        replace r_p3 := r_p3.on (KT.same s_fin)
        replace r_p4 := r_p4.on (KT.same s_fin)
        replace o_LS := s_fin _ _ o_LS
        replace S := S.sm s_fin
        clear h_fin
        clear s_fin
        generalize (upd H6 fin (.tup [.str "shape", .str tn, .int 2, .ref so])) = Hq59 at hB1 hc r_v0 r_v1 r_so r_p1 r_p2 r_p3 r_p4 o_LS r_fin S ⊢
        exact k _ _ (.shp tn 2 sh) cn S hB1 hc (by omega) (by omega) (by simpa [En.d, Sh.d, Sh.ds] using r_fin) (wf_shp ltn (by decide) fs) (by simp only [En.dep]; omega)
    rw [decide_eq_false k4]
    refine iteF (A := _) ?_
    refine ⟨_, rfl, rfl, _, rfl, ?_⟩
    rw [dec_i]
    by_cases k5 : kd = 5
    · rw [decide_eq_true k5]
      refine iteT (B := _) ?_
      refine ⟨(show 2 ≤ sizeLine by decide), fun LT h_LT => ?_⟩
      have s_LT : Sm H4 (upd H4 LT (.lst [.str "t", .str "u"])) := Sm.new h_LT
      have o_LT : (upd H4 LT (.lst [.str "t", .str "u"])) LT = some (.lst [.str "t", .str "u"]) := upd_same
      replace hB1 := hB1.keep fun a o e _ => s_LT a o e
      replace hc := hc.sm s_LT
      replace r_v0 := r_v0.on (KT.same s_LT)
      replace r_v1 := r_v1.on (KT.same s_LT)
      replace r_so := r_so.on (KT.same s_LT)
      replace S := S.sm s_LT
      clear h_LT
      clear s_LT
      generalize (upd H4 LT (.lst [.str "t", .str "u"])) = Hq60 at hB1 hc r_v0 r_v1 r_so o_LT S ⊢
      refine ⟨_, rfl, b, c, 2, rfl, by decide, by decide, hB1, fun r4 H5 r40 r41 hx5 hB5 => ?_⟩
      replace hc := hc.bx hB1 hx5
      replace r_v0 := r_v0.on (hB1.kt hx5)
      replace r_v1 := r_v1.on (hB1.kt hx5)
      replace r_so := r_so.on (hB1.kt hx5)
      replace o_LT := (hx5 _ (hB1.off2 o_LT).1 (hB1.off2 o_LT).2).trans o_LT
      replace S := S.bx hx5
      replace hB1 := hB5
      obtain ⟨tn, etn, otn, ltn⟩ := str_at ["t", "u"] (by decide +kernel) r40 r41
      refine ⟨LT, _, _, _, rfl, rfl, SqL.of o_LT, etn, ?_⟩
      clear o_LT etn
      have htn : ∀ {H : Hp}, Rp K H (.str tn) (.str tn) := .str _ otn
      refine ⟨_, rfl, b, c, 2, rfl, by decide, by decide, hB1, fun r5 H6 r50 r51 hx6 hB6 => ?_⟩
      replace hc := hc.bx hB1 hx6
      replace r_v0 := r_v0.on (hB1.kt hx6)
      replace r_v1 := r_v1.on (hB1.kt hx6)
      replace r_so := r_so.on (hB1.kt hx6)
      replace S := S.bx hx6
      replace hB1 := hB6
      obtain ⟨j, rfl⟩ := Int.eq_ofNat_of_zero_le r50
      refine ⟨_, rfl, (show 4 ≤ sizeLine by decide), fun fin h_fin => ?_⟩
      have s_fin : Sm H6 (upd H6 fin (.tup [.str "shape", .str tn, .int (j : Int), .ref so])) := Sm.new h_fin
      have r_fin : Rp K (upd H6 fin (.tup [.str "shape", .str tn, .int (j : Int), .ref so])) (.ref fin) (.tuple _) := Rp.mk upd_same (RpAll.on (.cons sok (.cons htn (.cons (.int _) (.cons r_so .nil)))) (KT.upd_new h_fin))
      replace hB1 := hB1.keep fun a o e _ => s_fin a o e
      replace hc := hc.sm s_fin
      replace r_v0 := r_v0.on (KT.same s_fin)
      replace r_v1 := r_v1.on (KT.same s_fin)
      replace r_so := r_so.on (KT.same s_fin)
      replace S := S.sm s_fin
      clear h_fin
      clear s_fin
      generalize (upd H6 fin (.tup [.str "shape", .str tn, .int (j : Int), .ref so])) = Hq61 at hB1 hc r_v0 r_v1 r_so r_fin S ⊢
      exact k _ _ (.shp tn j sh) cn S hB1 hc (by omega) (by omega) (by simpa only [En.d] using r_fin) (wf_shp ltn (by omega) fs) (by simp only [En.dep]; omega)
    rw [decide_eq_false k5]
    refine iteF (A := _) ?_
    -- a functor
    refine ⟨_, rfl, rfl, _, rfl, ?_⟩
    rw [dec_i]
    by_cases k6 : kd = 6
    · rw [decide_eq_true k6]
      refine iteT (B := _) ?_
      refine ⟨_, rfl, Nat.zero_le _, fun x1 h_x1 => ?_⟩
      have s_x1 : Sm H4 (upd H4 x1 (.tup [])) := Sm.new h_x1
      have r_x1 : Rp K (upd H4 x1 (.tup [])) (.ref x1) (.tuple _) := Rp.mk upd_same (RpAll.on (.nil) (KT.upd_new h_x1))
      replace hB1 := hB1.keep fun a o e _ => s_x1 a o e
      replace hc := hc.sm s_x1
      replace r_v0 := r_v0.on (KT.same s_x1)
      replace r_v1 := r_v1.on (KT.same s_x1)
      replace r_so := r_so.on (KT.same s_x1)
      replace S := S.sm s_x1
      clear h_x1
      clear s_x1
      generalize (upd H4 x1 (.tup [])) = Hq62 at hB1 hc r_v0 r_v1 r_so r_x1 S ⊢
      refine ⟨Nat.zero_le _, fun x2 h_x2 => ?_⟩
      have s_x2 : Sm Hq62 (upd Hq62 x2 (.tup [])) := Sm.new h_x2
      have r_x2 : Rp K (upd Hq62 x2 (.tup [])) (.ref x2) (.tuple _) := Rp.mk upd_same (RpAll.on (.nil) (KT.upd_new h_x2))
      replace hB1 := hB1.keep fun a o e _ => s_x2 a o e
      replace hc := hc.sm s_x2
      replace r_v0 := r_v0.on (KT.same s_x2)
      replace r_v1 := r_v1.on (KT.same s_x2)
      replace r_so := r_so.on (KT.same s_x2)
      replace r_x1 := r_x1.on (KT.same s_x2)
      replace S := S.sm s_x2
      clear h_x2
      clear s_x2
      generalize (upd Hq62 x2 (.tup [])) = Hq63 at hB1 hc r_v0 r_v1 r_so r_x1 r_x2 S ⊢
      refine ⟨(show 2 ≤ sizeLine by decide), fun x3 h_x3 => ?_⟩
      have s_x3 : Sm Hq63 (upd Hq63 x3 (.tup [.ref x1, .ref x2])) := Sm.new h_x3
      have r_x3 : Rp K (upd Hq63 x3 (.tup [.ref x1, .ref x2])) (.ref x3) (.tuple _) := Rp.mk upd_same (RpAll.on (.cons r_x1 (.cons r_x2 .nil)) (KT.upd_new h_x3))
      replace hB1 := hB1.keep fun a o e _ => s_x3 a o e
      replace hc := hc.sm s_x3
      replace r_v0 := r_v0.on (KT.same s_x3)
      replace r_v1 := r_v1.on (KT.same s_x3)
      replace r_so := r_so.on (KT.same s_x3)
      replace r_x1 := r_x1.on (KT.same s_x3)
      replace r_x2 := r_x2.on (KT.same s_x3)
      replace S := S.sm s_x3
      clear h_x3
      clear s_x3
      generalize (upd Hq63 x3 (.tup [.ref x1, .ref x2])) = Hq64 at hB1 hc r_v0 r_v1 r_so r_x1 r_x2 r_x3 S ⊢
      refine ⟨Nat.zero_le _, fun x4 h_x4 => ?_⟩
      have s_x4 : Sm Hq64 (upd Hq64 x4 (.tup [])) := Sm.new h_x4
      have r_x4 : Rp K (upd Hq64 x4 (.tup [])) (.ref x4) (.tuple _) := Rp.mk upd_same (RpAll.on (.nil) (KT.upd_new h_x4))
      replace hB1 := hB1.keep fun a o e _ => s_x4 a o e
      replace hc := hc.sm s_x4
      replace r_v0 := r_v0.on (KT.same s_x4)
      replace r_v1 := r_v1.on (KT.same s_x4)
      replace r_so := r_so.on (KT.same s_x4)
      replace r_x1 := r_x1.on (KT.same s_x4)
      replace r_x2 := r_x2.on (KT.same s_x4)
      replace r_x3 := r_x3.on (KT.same s_x4)
      replace S := S.sm s_x4
      clear h_x4
      clear s_x4
      generalize (upd Hq64 x4 (.tup [])) = Hq65 at hB1 hc r_v0 r_v1 r_so r_x1 r_x2 r_x3 r_x4 S ⊢
      refine ⟨Nat.zero_le _, fun x5 h_x5 => ?_⟩
      have s_x5 : Sm Hq65 (upd Hq65 x5 (.tup [])) := Sm.new h_x5
      have r_x5 : Rp K (upd Hq65 x5 (.tup [])) (.ref x5) (.tuple _) := Rp.mk upd_same (RpAll.on (.nil) (KT.upd_new h_x5))
      replace hB1 := hB1.keep fun a o e _ => s_x5 a o e
      replace hc := hc.sm s_x5
      replace r_v0 := r_v0.on (KT.same s_x5)
      replace r_v1 := r_v1.on (KT.same s_x5)
      replace r_so := r_so.on (KT.same s_x5)
      replace r_x1 := r_x1.on (KT.same s_x5)
      replace r_x2 := r_x2.on (KT.same s_x5)
      replace r_x3 := r_x3.on (KT.same s_x5)
      replace r_x4 := r_x4.on (KT.same s_x5)
      replace S := S.sm s_x5
      clear h_x5
      clear s_x5
      generalize (upd Hq65 x5 (.tup [])) = Hq66 at hB1 hc r_v0 r_v1 r_so r_x1 r_x2 r_x3 r_x4 r_x5 S ⊢
      refine ⟨(show 5 ≤ sizeLine by decide), fun fin h_fin => ?_⟩
      have s_fin : Sm Hq66 (upd Hq66 fin (.tup [.str "functor", .str cp, .ref x3, .ref x4, .ref x5])) := Sm.new h_fin
      have r_fin : Rp K (upd Hq66 fin (.tup [.str "functor", .str cp, .ref x3, .ref x4, .ref x5])) (.ref fin) (.tuple _) := Rp.mk upd_same (RpAll.on (.cons sok (.cons hcp (.cons r_x3 (.cons r_x4 (.cons r_x5 .nil))))) (KT.upd_new h_fin))
      replace hB1 := hB1.keep fun a o e _ => s_fin a o e
      replace hc := hc.sm s_fin
      replace r_v0 := r_v0.on (KT.same s_fin)
      replace r_v1 := r_v1.on (KT.same s_fin)
      replace r_so := r_so.on (KT.same s_fin)
      replace r_x1 := r_x1.on (KT.same s_fin)
      replace r_x2 := r_x2.on (KT.same s_fin)
      replace r_x3 := r_x3.on (KT.same s_fin)
      replace r_x4 := r_x4.on (KT.same s_fin)
      replace r_x5 := r_x5.on (KT.same s_fin)
      replace S := S.sm s_fin
      clear h_fin
      clear s_fin
      generalize (upd Hq66 fin (.tup [.str "functor", .str cp, .ref x3, .ref x4, .ref x5])) = Hq67 at hB1 hc r_v0 r_v1 r_so r_x1 r_x2 r_x3 r_x4 r_x5 r_fin S ⊢
      exact k _ _ (.oth "functor" cp _) cn S hB1 hc (by omega) (by omega) (by simp only [En.d]; exact r_fin) (wf_fun lcp) (by simp only [En.dep]; omega)
    rw [decide_eq_false k6]
    refine iteF (A := _) ?_
    -- a signature
    refine ⟨_, rfl, rfl, _, rfl, ?_⟩
    rw [dec_i]
    by_cases k7 : kd = 7
    · rw [decide_eq_true k7]
      refine iteT (B := _) ?_
      refine iteT (B := _) ?_
      refine ⟨_, rfl, Nat.zero_le _, fun x1 h_x1 => ?_⟩
      have s_x1 : Sm H4 (upd H4 x1 (.tup [])) := Sm.new h_x1
      have r_x1 : Rp K (upd H4 x1 (.tup [])) (.ref x1) (.tuple _) := Rp.mk upd_same (RpAll.on (.nil) (KT.upd_new h_x1))
      replace hB1 := hB1.keep fun a o e _ => s_x1 a o e
      replace hc := hc.sm s_x1
      replace r_v0 := r_v0.on (KT.same s_x1)
      replace r_v1 := r_v1.on (KT.same s_x1)
      replace r_so := r_so.on (KT.same s_x1)
      replace S := S.sm s_x1
      clear h_x1
      clear s_x1
      generalize (upd H4 x1 (.tup [])) = Hq68 at hB1 hc r_v0 r_v1 r_so r_x1 S ⊢
      refine ⟨Nat.zero_le _, fun x2 h_x2 => ?_⟩
      have s_x2 : Sm Hq68 (upd Hq68 x2 (.tup [])) := Sm.new h_x2
      have r_x2 : Rp K (upd Hq68 x2 (.tup [])) (.ref x2) (.tuple _) := Rp.mk upd_same (RpAll.on (.nil) (KT.upd_new h_x2))
      replace hB1 := hB1.keep fun a o e _ => s_x2 a o e
      replace hc := hc.sm s_x2
      replace r_v0 := r_v0.on (KT.same s_x2)
      replace r_v1 := r_v1.on (KT.same s_x2)
      replace r_so := r_so.on (KT.same s_x2)
      replace r_x1 := r_x1.on (KT.same s_x2)
      replace S := S.sm s_x2
      clear h_x2
      clear s_x2
      generalize (upd Hq68 x2 (.tup [])) = Hq69 at hB1 hc r_v0 r_v1 r_so r_x1 r_x2 S ⊢
      refine ⟨(show 2 ≤ sizeLine by decide), fun x3 h_x3 => ?_⟩
      have s_x3 : Sm Hq69 (upd Hq69 x3 (.tup [.ref x1, .ref x2])) := Sm.new h_x3
      have r_x3 : Rp K (upd Hq69 x3 (.tup [.ref x1, .ref x2])) (.ref x3) (.tuple _) := Rp.mk upd_same (RpAll.on (.cons r_x1 (.cons r_x2 .nil)) (KT.upd_new h_x3))
      replace hB1 := hB1.keep fun a o e _ => s_x3 a o e
      replace hc := hc.sm s_x3
      replace r_v0 := r_v0.on (KT.same s_x3)
      replace r_v1 := r_v1.on (KT.same s_x3)
      replace r_so := r_so.on (KT.same s_x3)
      replace r_x1 := r_x1.on (KT.same s_x3)
      replace r_x2 := r_x2.on (KT.same s_x3)
      replace S := S.sm s_x3
      clear h_x3
      clear s_x3
      generalize (upd Hq69 x3 (.tup [.ref x1, .ref x2])) = Hq70 at hB1 hc r_v0 r_v1 r_so r_x1 r_x2 r_x3 S ⊢
      refine ⟨(show 3 ≤ sizeLine by decide), fun fin h_fin => ?_⟩
      have s_fin : Sm Hq70 (upd Hq70 fin (.tup [.str "signature", .str cp, .ref x3])) := Sm.new h_fin
      have r_fin : Rp K (upd Hq70 fin (.tup [.str "signature", .str cp, .ref x3])) (.ref fin) (.tuple _) := Rp.mk upd_same (RpAll.on (.cons sok (.cons hcp (.cons r_x3 .nil))) (KT.upd_new h_fin))
      replace hB1 := hB1.keep fun a o e _ => s_fin a o e
      replace hc := hc.sm s_fin
      replace r_v0 := r_v0.on (KT.same s_fin)
      replace r_v1 := r_v1.on (KT.same s_fin)
      replace r_so := r_so.on (KT.same s_fin)
      replace r_x1 := r_x1.on (KT.same s_fin)
      replace r_x2 := r_x2.on (KT.same s_fin)
      replace r_x3 := r_x3.on (KT.same s_fin)
      replace S := S.sm s_fin
      clear h_fin
      clear s_fin
      generalize (upd Hq70 fin (.tup [.str "signature", .str cp, .ref x3])) = Hq71 at hB1 hc r_v0 r_v1 r_so r_x1 r_x2 r_x3 r_fin S ⊢
      exact k _ _ (.oth "signature" cp _) cn S hB1 hc (by omega) (by omega) (by simp only [En.d]; exact r_fin) (wf_sig lcp) (by simp only [En.dep]; omega)
    rw [decide_eq_false k7]
    refine iteF (A := _) ?_
    refine ⟨_, rfl, rfl, _, rfl, ?_⟩
    rw [dec_i]
    by_cases k8 : deep = 0
    · rw [decide_eq_true k8]
      refine iteT (B := _) ?_
      refine ⟨_, rfl, Nat.zero_le _, fun x1 h_x1 => ?_⟩
      have s_x1 : Sm H4 (upd H4 x1 (.tup [])) := Sm.new h_x1
      have r_x1 : Rp K (upd H4 x1 (.tup [])) (.ref x1) (.tuple _) := Rp.mk upd_same (RpAll.on (.nil) (KT.upd_new h_x1))
      replace hB1 := hB1.keep fun a o e _ => s_x1 a o e
      replace hc := hc.sm s_x1
      replace r_v0 := r_v0.on (KT.same s_x1)
      replace r_v1 := r_v1.on (KT.same s_x1)
      replace r_so := r_so.on (KT.same s_x1)
      replace S := S.sm s_x1
      clear h_x1
      clear s_x1
      generalize (upd H4 x1 (.tup [])) = Hq72 at hB1 hc r_v0 r_v1 r_so r_x1 S ⊢
      refine ⟨Nat.zero_le _, fun x2 h_x2 => ?_⟩
      have s_x2 : Sm Hq72 (upd Hq72 x2 (.tup [])) := Sm.new h_x2
      have r_x2 : Rp K (upd Hq72 x2 (.tup [])) (.ref x2) (.tuple _) := Rp.mk upd_same (RpAll.on (.nil) (KT.upd_new h_x2))
      replace hB1 := hB1.keep fun a o e _ => s_x2 a o e
      replace hc := hc.sm s_x2
      replace r_v0 := r_v0.on (KT.same s_x2)
      replace r_v1 := r_v1.on (KT.same s_x2)
      replace r_so := r_so.on (KT.same s_x2)
      replace r_x1 := r_x1.on (KT.same s_x2)
      replace S := S.sm s_x2
      clear h_x2
      clear s_x2
      generalize (upd Hq72 x2 (.tup [])) = Hq73 at hB1 hc r_v0 r_v1 r_so r_x1 r_x2 S ⊢
      refine ⟨(show 2 ≤ sizeLine by decide), fun x3 h_x3 => ?_⟩
      have s_x3 : Sm Hq73 (upd Hq73 x3 (.tup [.ref x1, .ref x2])) := Sm.new h_x3
      have r_x3 : Rp K (upd Hq73 x3 (.tup [.ref x1, .ref x2])) (.ref x3) (.tuple _) := Rp.mk upd_same (RpAll.on (.cons r_x1 (.cons r_x2 .nil)) (KT.upd_new h_x3))
      replace hB1 := hB1.keep fun a o e _ => s_x3 a o e
      replace hc := hc.sm s_x3
      replace r_v0 := r_v0.on (KT.same s_x3)
      replace r_v1 := r_v1.on (KT.same s_x3)
      replace r_so := r_so.on (KT.same s_x3)
      replace r_x1 := r_x1.on (KT.same s_x3)
      replace r_x2 := r_x2.on (KT.same s_x3)
      replace S := S.sm s_x3
      clear h_x3
      clear s_x3
      generalize (upd Hq73 x3 (.tup [.ref x1, .ref x2])) = Hq74 at hB1 hc r_v0 r_v1 r_so r_x1 r_x2 r_x3 S ⊢
      refine ⟨(show 3 ≤ sizeLine by decide), fun fin h_fin => ?_⟩
      have s_fin : Sm Hq74 (upd Hq74 fin (.tup [.str "signature", .str cp, .ref x3])) := Sm.new h_fin
      have r_fin : Rp K (upd Hq74 fin (.tup [.str "signature", .str cp, .ref x3])) (.ref fin) (.tuple _) := Rp.mk upd_same (RpAll.on (.cons sok (.cons hcp (.cons r_x3 .nil))) (KT.upd_new h_fin))
      replace hB1 := hB1.keep fun a o e _ => s_fin a o e
      replace hc := hc.sm s_fin
      replace r_v0 := r_v0.on (KT.same s_fin)
      replace r_v1 := r_v1.on (KT.same s_fin)
      replace r_so := r_so.on (KT.same s_fin)
      replace r_x1 := r_x1.on (KT.same s_fin)
      replace r_x2 := r_x2.on (KT.same s_fin)
      replace r_x3 := r_x3.on (KT.same s_fin)
      replace S := S.sm s_fin
      clear h_fin
      clear s_fin
      generalize (upd Hq74 fin (.tup [.str "signature", .str cp, .ref x3])) = Hq75 at hB1 hc r_v0 r_v1 r_so r_x1 r_x2 r_x3 r_fin S ⊢
      exact k _ _ (.oth "signature" cp _) cn S hB1 hc (by omega) (by omega) (by simp only [En.d]; exact r_fin) (wf_sig lcp) (by simp only [En.dep]; omega)
    rw [decide_eq_false k8]
    refine iteF (A := _) ?_
    -- a module
    obtain ⟨n, rfl⟩ : ∃ n', n = n' + 1 := ⟨n - 1, by omega⟩
    refine ⟨_, rfl, b, c, 4, rfl, by decide, by decide, hB1, fun r5 H5 r50 r51 hx5 hB5 => ?_⟩
    replace S := S.bx hx5
    replace hc := hc.bx hB1 hx5
    obtain ⟨m, rfl⟩ := Int.eq_ofNat_of_zero_le r50
    clear hB1 r_v0 r_v1 r_so hx5 p3
    have p3 := pow3 n
    have e3 : 3 ^ (n + 1) = 3 * 3 ^ n := by rw [Nat.pow_succ]; omega
    rw [e3] at hcb k
    refine ⟨(m : Int), rfl, by omega, by omega, fun D hD => ?_⟩
    have nDb : D ≠ b := by obtain ⟨o, e⟩ := hB5.at_b; exact (ne_of_none e hD).symm
    have nDc : D ≠ c := by obtain ⟨o, e⟩ := hB5.at_c; exact (ne_of_none e hD).symm
    have nDs : D ≠ s := (ne_of_none hc.at_ hD).symm
    refine lc_range (lo := 0) (n := (m : Int).toNat) (fun i H' => Vs b c s H5 H' ∧ BoxAt H' b c ∧ ∃ (cn' : Int) (acc : List V) (es : List En), CnAt H' b c s cn' ∧ cn ≤ cn' ∧ cn' ≤ cn + (i * 3 ^ n : Nat) ∧ H' D = some (.lst acc) ∧ RpAll K H' acc (En.ds es) ∧ es.length = i ∧ (∀ e ∈ es, e.wf = true ∧ e.dep ≤ n)) ?_ ?_ ?_
    · refine ⟨Vs.refl.upd hD, hB5.updD nDb nDc, cn, [], [], hc.updD nDs, by omega, by omega, upd_same, .nil, rfl, by simp⟩
    · rintro i H' hi ⟨v5, hB', cn', acc, es, hc', c1, c2, eD, hacc, el, hes⟩
      rw [Int.toNat_natCast] at hi
      have hm : (i + 1) * 3 ^ n ≤ 3 * 3 ^ n := Nat.mul_le_mul_right _ (by omega)
      rw [Nat.succ_mul] at hm
      refine ⟨rfl, tYes_do ?_⟩
      refine ⟨_, rfl, _, rfl, _, rfl, _, _, rfl, rfl, n, rfl, b, c, s, deep - 1, cn', rfl, by omega, by omega, hB', hc', by omega, by omega, fun r H2 e cn2 hv hB2 hc2 l1 l2 hr2 we de => ?_⟩
      have eD2 : H2 D = some (.lst acc) := hv _ _ nDb nDc nDs eD
      have kt := KT.upd_lst (o := .lst (acc ++ [r])) (NT.lst eD2)
      refine ⟨acc, eD2, small_lt ?_, (v5.trans hv).upd hD, hB2.updD nDb nDc, cn2, acc ++ [r], es ++ [e], hc2.updD nDs, by omega, by rw [Nat.succ_mul]; omega, upd_same, ends_app ((hacc.on (hB'.ktv hc' hv)).on kt) (.cons (hr2.on kt) .nil), by simp [el], ?_⟩
      · rw [hacc.length, ends_len]; omega
      · intro x mx
        rcases List.mem_append.mp mx with mx | mx
        · exact hes x mx
        · rw [List.mem_singleton.mp mx]; exact ⟨we, de⟩
    · rintro H6 ⟨v5, hB6, cn6, acc, es, hc6, c1, c2, eD, hacc, el, hes⟩
      rw [Int.toNat_natCast] at c2 el
      have hm : m * 3 ^ n ≤ 3 * 3 ^ n := Nat.mul_le_mul_right _ (by omega)
      have hal : acc.length = es.length := by rw [hacc.length, ends_len]
      refine ⟨_, rfl, _, rfl, D, rfl, ⟨_, SqL.of eD⟩, fun D2 hD2 => ?_⟩
      refine lc_list (xs := acc) (fun j H'' => Sm H6 H'' ∧ ∃ acc2 : List V, H'' D2 = some (.lst acc2) ∧ RpAll K H'' acc2 (En.ds ((es.take j).filter fun e => !decide (e.tag = ("signature" : Str))))) ⟨Sm.new hD2, [], upd_same, by simp; exact .nil⟩ ?_ ?_ ?_
      · rintro j H'' _ ⟨s7, _⟩
        exact SqL.of (s7 _ _ eD)
      · rintro j v H'' hv ⟨s7, acc2, e2, hacc2⟩
        have kt7 := KT.same s7
        obtain ⟨en, e1, ren⟩ := ends_get (hacc.on kt7) hv
        obtain ⟨d, wd, rfl, sd⟩ := en_inv ren
        have es1 : (es.take (j + 1)).filter (fun e => !decide (e.tag = ("signature" : Str))) = ((es.take j).filter fun e => !decide (e.tag = ("signature" : Str))) ++ (if (!decide (en.tag = ("signature" : Str))) = true then [en] else []) := by
          rw [take_snoc e1, List.filter_append]
          congr 1
          cases c0 : (!decide (en.tag = ("signature" : Str))) <;> simp [List.filter, c0]
        refine ⟨rfl, ?_⟩
        refine ⟨_, rfl, d, _, _, _, rfl, rfl, sd, at0, rfl, _, rfl, ?_⟩
        rw [dec_s]
        have al : acc2.length ≤ 60 := by
          rw [hacc2.length, ends_len]
          exact Nat.le_trans (List.length_filter_le _ _) (by rw [List.length_take]; omega)
        by_cases cs : en.tag = ("signature" : Str)
        · rw [decide_eq_true cs]
          refine iteF (A := _) ⟨s7, acc2, e2, ?_⟩
          rw [es1, if_neg (by rw [decide_eq_true cs]; decide), List.append_nil]
          exact hacc2
        · rw [decide_eq_false cs]
          refine iteT (B := _) ?_
          have ktu : KT H'' (upd H'' D2 (.lst (acc2 ++ [.ref d]))) := KT.upd_lst (NT.lst e2)
          refine ⟨_, rfl, acc2, e2, small_lt (by omega), s7.upd hD2, acc2 ++ [.ref d], upd_same, ?_⟩
          rw [es1, if_pos (by rw [decide_eq_false cs]; rfl)]
          exact ends_app (hacc2.on ktu) (.cons (ren.on ktu) .nil)
      · rintro H7 ⟨s7, acc2, e2, hacc2⟩
        rw [List.take_of_length_le (by omega)] at hacc2
        have fl : (es.filter fun e => !decide (e.tag = ("signature" : Str))).length ≤ 3 := Nat.le_trans (List.length_filter_le _ _) (by omega)
        refine ⟨D2, acc2, _, rfl, .inl (SqL.of e2), hacc2, by omega, fun l ys H8 _ s8 el8 hys => ?_⟩
        refine ⟨l, ys, rfl, .inl ⟨SqL.of el8, fun t ht => ?_⟩⟩
        have rt : Rp K (upd H8 t (.tup ys)) (.ref t) (.tuple (En.ds (kept (es.filter fun e => !decide (e.tag = ("signature" : Str)))))) := Rp.mk upd_same (hys.on (KT.upd_new ht))
        have s9 : Sm H6 (upd H8 t (.tup ys)) := (Sm.sm s7 s8).on ht
        generalize (upd H8 t (.tup ys)) = H9 at rt s9 ⊢
        refine ⟨(show 3 ≤ sizeLine by decide), fun fin hfin => ?_⟩
        have ktf := KT.upd_new (o := .tup [.str "module", .str cp, .ref t]) hfin
        have s10 : Sm H6 (upd H9 fin (.tup [.str "module", .str cp, .ref t])) := s9.on hfin
        have memk : ∀ e ∈ kept (es.filter fun e => !decide (e.tag = ("signature" : Str))), e.wf = true ∧ e.dep ≤ n := fun e me => hes e (List.mem_filter.mp (keptTo_mem me)).1
        refine k _ _ (.mod cp (kept (es.filter fun e => !decide (e.tag = ("signature" : Str))))) cn6 (S.trans (v5.sm s10)) (hB6.keep fun a o e _ => s10 _ _ e) (hc6.sm s10) (by omega) (by omega) ?_ (wf_mod lcp (Nat.le_trans (keptTo_len _ _) (by omega)) (wfs_all.mpr fun e me => (memk e me).1)) ?_
        · simp only [En.d]
          exact Rp.mk upd_same (.cons sok (.cons hcp (.cons (rt.on ktf) .nil)))
        · simp only [En.dep]
          have := deps_le fun e me => (memk e me).2
          omega
theorem ok_ent (T : Txt K mg A) : ∀ n : Nat, FnOk P w K mg base CX0 (n + 4) A.f__law_entry A.d__law_entry ["box", "stamps", "deep"] (spE K n)
  | 0 => ok_entS T 0 (FnOk.mono (T.F__law_entry.ok (k := 0) sc__law_entry (fun _ _ _ _ ⟨_, h, _⟩ => by omega) (fun _ _ _ _ _ _ _ _ _ ⟨_, h, _⟩ => by omega)) (by omega))
  | n + 1 => ok_entS T (n + 1) ((ok_ent T n).imp fun _ _ _ _ ⟨n', h, q⟩ => by cases h; exact q)
end
end K87

set_option Elab.async false
set_option maxRecDepth 100000
set_option linter.all false
set_option maxHeartbeats 4000000
namespace RG
open PySem L2 GD AG
def basisE : List En := [
  .shp "int" 0 (.c 0 []),
  .shp "unit" 0 (.c 1 []),
  .shp "exn" 0 (.c 2 []),
  .shp "ref" 1 (.c 3 [.v 0]),
  .shp "bool" 0 (.c 4 []),
  .shp "list" 1 (.c 5 [.v 0]),
  .shp "option" 1 (.c 6 [.v 0]),
  .shp "order" 0 (.c 7 []),
  .con "False" 0 none (.c 4 []) 0 (.tuple [.tuple [.str "False", .bool false], .tuple [.str "True", .bool false]]),
  .con "True" 0 none (.c 4 []) 1 (.tuple [.tuple [.str "False", .bool false], .tuple [.str "True", .bool false]]),
  .con "Nil" 1 none (.c 5 [.v 0]) 0 (.tuple [.tuple [.str "Nil", .bool false], .tuple [.str "Cons", .bool true]]),
  .con "Cons" 1 (some (.t [.v 0, .c 5 [.v 0]])) (.c 5 [.v 0]) 1 (.tuple [.tuple [.str "Nil", .bool false], .tuple [.str "Cons", .bool true]]),
  .con "None" 1 none (.c 6 [.v 0]) 0 (.tuple [.tuple [.str "None", .bool false], .tuple [.str "Some", .bool true]]),
  .con "Some" 1 (some (.v 0)) (.c 6 [.v 0]) 1 (.tuple [.tuple [.str "None", .bool false], .tuple [.str "Some", .bool true]]),
  .con "Less" 0 none (.c 7 []) 0 (.tuple [.tuple [.str "Less", .bool false], .tuple [.str "Equal", .bool false], .tuple [.str "Greater", .bool false]]),
  .con "Equal" 0 none (.c 7 []) 1 (.tuple [.tuple [.str "Less", .bool false], .tuple [.str "Equal", .bool false], .tuple [.str "Greater", .bool false]]),
  .con "Greater" 0 none (.c 7 []) 2 (.tuple [.tuple [.str "Less", .bool false], .tuple [.str "Equal", .bool false], .tuple [.str "Greater", .bool false]]),
  .exn "Match" none,
  .exn "Bind" none,
  .exn "Div" none,
  .exn "Equality" none,
  .val "+" 0 (.f (.t [.c 0 [], .c 0 []]) (.c 0 [])),
  .val "-" 0 (.f (.t [.c 0 [], .c 0 []]) (.c 0 [])),
  .val "*" 0 (.f (.t [.c 0 [], .c 0 []]) (.c 0 [])),
  .val "div" 0 (.f (.t [.c 0 [], .c 0 []]) (.c 0 [])),
  .val "mod" 0 (.f (.t [.c 0 [], .c 0 []]) (.c 0 [])),
  .val "<" 0 (.f (.t [.c 0 [], .c 0 []]) (.c 4 [])),
  .val "<=" 0 (.f (.t [.c 0 [], .c 0 []]) (.c 4 [])),
  .val ">" 0 (.f (.t [.c 0 [], .c 0 []]) (.c 4 [])),
  .val ">=" 0 (.f (.t [.c 0 [], .c 0 []]) (.c 4 [])),
  .val "=" 1 (.f (.t [.v 0, .v 0]) (.c 4 [])),
  .val "<>" 1 (.f (.t [.v 0, .v 0]) (.c 4 [])),
  .val "~" 0 (.f (.c 0 []) (.c 0 [])),
  .val "ref" 1 (.f (.v 0) (.c 3 [.v 0])),
  .val "!" 1 (.f (.c 3 [.v 0]) (.v 0)),
  .val ":=" 1 (.f (.t [.c 3 [.v 0], .v 0]) (.c 1 [])),
  .val "print" 0 (.f (.c 0 []) (.c 1 [])),
  .val "not" 0 (.f (.c 4 []) (.c 4 [])),
  .val "@" 1 (.f (.t [.c 5 [.v 0], .c 5 [.v 0]]) (.c 5 [.v 0]))]
theorem basis_wf : En.wfs basisE = true := by decide +kernel
theorem basis_len : basisE.length = 39 := by rfl
theorem basis_dep : En.deps basisE = 0 := by decide +kernel
theorem names_ok {es : List En} (w : En.wfs es = true) (d : En.deps es ≤ 3) (l : es.length ≤ 8) : NamesOk (basisE ++ es) :=
  ⟨wfs_app basis_wf w, by rw [deps_app, basis_dep]; exact Nat.max_le.mpr ⟨Nat.zero_le _, d⟩, by rw [List.length_append, basis_len]; omega⟩
end RG

set_option Elab.async false
set_option maxRecDepth 100000
set_option linter.all false
set_option maxHeartbeats 40000000
set_option pp.maxSteps 400
namespace K87
open PySem L2 GD AG RG
section
variable {P : Program} {w : World} {K : PySem.W.Frag} {mg : Str → Option Value} {base : Heap} {A : Adr}
theorem basis_eq : BASIS_D = .tuple [.tuple (En.ds basisE), .tuple [.int 0, .int 0, .int 0, .int 1, .int 0, .int 1, .int 1, .int 0]] := by rfl
theorem basis_at (T : Txt K mg A) (H : Hp) : ∃ p q, SqT K H A.c_BASIS [p, q] ∧ Rp K H p (.tuple (En.ds basisE)) := by
  have h := T.y_BASIS H
  rw [basis_eq] at h
  obtain ⟨a, ys, e, s, r0⟩ := h.tup_inv
  cases e
  obtain ⟨v1, w1, rfl, h1, r1⟩ := r0.cons_inv
  obtain ⟨v2, w2, rfl, h2, r2⟩ := r1.cons_inv
  have er := RpAll.nil_inv r2
  rw [er] at s
  exact ⟨v1, v2, s, h1⟩
theorem slA_first {H : Hp} {Q : VK} {x : V} {es : List En} (hx : Rp K H x (.tuple (En.ds es)))
    (q : ∀ (r : V) (H' : Hp), Sm H H' → Rp K H' r (.tuple (En.ds (es.take 1))) → Q r H') : rSlA K x none (some 1) H Q := by
  refine slA_rp hx fun r H' s h => q r H' s ?_
  have e : HT.sIx (En.ds es).length (En.ds es).length (some 1) = min 1 es.length := by
    have := HT.sIx_nat (En.ds es).length (En.ds es).length 1
    rw [ends_len] at this ⊢
    exact this
  rw [sIx_none, e, List.drop_zero, Nat.sub_zero, ends_map, ← List.map_take, ← ends_map] at h
  have e2 : es.take (min 1 es.length) = es.take 1 := by
    rcases Nat.le_total 1 es.length with h | h
    · rw [Nat.min_eq_left h]
    · rw [Nat.min_eq_right h, List.take_length, List.take_of_length_le h]
  rw [e2] at h
  exact h
def spLaw (K : PySem.W.Frag) : Sp := fun vs H Q _ => ∃ (a : Addr) (ns : List Int), vs = [.ref a] ∧ SqL K H a (ns.map V.int) ∧ ns.length ≤ 63 ∧ ∀ H', Q (.bl true) H'
theorem ok_law (T : Txt K mg A) : FnOk P w K mg base CX0 53 A.f_law A.d_law ["script"] (spLaw K) := by
  have G__law_draw : FnOk P w K mg base CX0 2 A.f__law_draw A.d__law_draw _ _ := ok__law_draw T
  have G__law_box : FnOk P w K mg base CX0 1 A.f__law_box A.d__law_box _ _ := ok__law_box T
  have G__law_entry : FnOk P w K mg base CX0 6 A.f__law_entry A.d__law_entry _ _ := ok_ent T 2
  have G_report : FnOk P w K mg base CX0 52 A.f_report A.d_report _ _ := ok_report T
  have G__law_lines : FnOk P w K mg base CX0 46 A.f__law_lines A.d__law_lines _ _ := ok_llines T 3
  have G__law_same : FnOk P w K mg base CX0 3 A.f__law_same A.d__law_same _ _ := ok_same T
  refine T.F_law.ok (k := 52) sc_law (fun vs H Q E h => ?_) (fun cdv Ar outer s H vs Q E hr h => ?_)
  · obtain ⟨a, ns, rfl, _⟩ := h
    rfl
  · obtain ⟨a, ns, rfl, hS, hlen, k⟩ := h
    refine ⟨_, (pss_cons (ps_set (i := 1) sc_law.nd rfl (Or.inr rfl) (pe_call G__law_box (hr.mono (by first | decide | omega)) rfl T.g__law_box T.F__law_box.kp T.b__law_box .nil pass0 (pa_cons (pv 0) (pa_cons pe_int pa_nil)))) (pss_cons (ps_set (i := 2) sc_law.nd rfl (Or.inr rfl) (pe_lst (pa_cons pe_int pa_nil))) (pss_cons (ps_set (i := 3) sc_law.nd rfl (Or.inl rfl) (pe_callTy call_tuple_of (by rfl) T.n_tuple (by decide +kernel) (pa_cons (pe_lc (own := [("k", 6)]) (g := gName 6) (tt := tYes) rfl sc_law.nd (pi_range1 rfl T.n_range (pa_cons (pe_call G__law_draw (hr.mono (by first | decide | omega)) rfl T.g__law_draw T.F__law_draw.kp T.b__law_draw .nil pass0 (pa_cons (pv 1) (pa_cons pe_int pa_nil))) pa_nil)) (blkOk_by (N := N_law) (sc := defScope s_law) (by decide +kernel)) (fun _ _ _ _ _ => (pg_name (i := 6) sc_law.nd rfl (Or.inl rfl))) (fun _ _ _ _ _ => pts_nil) (fun _ _ _ _ _ => (pe_call G__law_entry (hr.mono (by first | decide | omega)) rfl T.g__law_entry T.F__law_entry.kp T.b__law_entry .nil pass0 (pa_cons (pv 1) (pa_cons (pv 2) (pa_cons pe_int pa_nil)))))) pa_nil))) (pss_cons (ps_set (i := 4) sc_law.nd rfl (Or.inl rfl) (pe_op op_catA (pe_ix (ixt (K := K) rfl) (pe_glob (v := .ref A.c_BASIS) rfl T.g_BASIS rfl) pe_int (fun _ _ => rfl)) (pv 3))) (pss_cons (ps_set (i := 5) sc_law.nd rfl (Or.inl rfl) (pe_call G_report (hr.mono (by first | decide | omega)) rfl T.g_report T.F_report.kp T.b_report .nil pass0 (pa_cons (pv 3) (pa_cons (pv 4) pa_nil)))) (pss_cons (ps_if (PW.pt (pw_or (pt_not (pt_val (pe_callB call_isi (by rfl) T.n_isinstance (by decide +kernel) (pa_cons (pv 5) (pa_cons (pe_bltn (v := .ty "list") (by rfl) T.n_list (by decide +kernel) rfl) pa_nil))) (by intro _; rfl))) (pw_or1 (pt_not (pt_val (pe_call G__law_same (hr.mono (by first | decide | omega)) rfl T.g__law_same T.F__law_same.kp T.b__law_same .nil pass0 (pa_cons (pe_callTy call_tuple_of (by rfl) T.n_tuple (by decide +kernel) (pa_cons (pv 5) pa_nil)) (pa_cons (pe_callTy call_tuple_of (by rfl) T.n_tuple (by decide +kernel) (pa_cons (pe_call G__law_lines (hr.mono (by first | decide | omega)) rfl T.g__law_lines T.F__law_lines.kp T.b__law_lines .nil pass0 (pa_cons (pv 4) (pa_cons (pv 3) (pa_cons (pe_tup pa_nil) pa_nil)))) pa_nil)) pa_nil))) (by intro _; rfl)))))) (pss_one (ps_ret pe_bl)) pss_nil) (pss_cons (ps_set (i := 4) sc_law.nd rfl (Or.inl rfl) (pe_op op_catA (pe_ix (ixt (K := K) rfl) (pe_glob (v := .ref A.c_BASIS) rfl T.g_BASIS rfl) pe_int (fun _ _ => rfl)) (pe_slice sl_tupA (pv 3) po_none (po_some pe_int)))) (pss_one (ps_ret (pe_call G__law_same (hr.mono (by first | decide | omega)) rfl T.g__law_same T.F__law_same.kp T.b__law_same .nil pass0 (pa_cons (pe_callTy call_tuple_of (by rfl) T.n_tuple (by decide +kernel) (pa_cons (pe_call G_report (hr.mono (by first | decide | omega)) rfl T.g_report T.F_report.kp T.b_report .nil pass0 (pa_cons (pe_slice sl_tupA (pv 3) po_none (po_some pe_int)) (pa_cons (pv 4) pa_nil))) pa_nil)) (pa_cons (pe_callTy call_tuple_of (by rfl) T.n_tuple (by decide +kernel) (pa_cons (pe_call G__law_lines (hr.mono (by first | decide | omega)) rfl T.g__law_lines T.F__law_lines.kp T.b__law_lines .nil pass0 (pa_cons (pv 4) (pa_cons (pe_slice sl_tupA (pv 3) po_none (po_some pe_int)) (pa_cons (pe_tup pa_nil) pa_nil)))) pa_nil)) pa_nil)))))))))))), ?_⟩
    refine ⟨_, rfl, a, ns, 0, rfl, hS, hlen, fun b c H1 hb0 hc0 sm1 hB => ?_⟩
    refine ⟨(show 1 ≤ sizeLine by decide), fun s hs => ?_⟩
    have nsb : s ≠ b := by obtain ⟨o, e⟩ := hB.at_b; exact (ne_of_none e hs).symm
    have nsc : s ≠ c := by obtain ⟨o, e⟩ := hB.at_c; exact (ne_of_none e hs).symm
    have hB2 := hB.updD (o := .lst [.int 8]) nsb nsc
    have hc2 : CnAt (upd H1 s (.lst [.int 8])) b c s 8 := ⟨nsb, nsc, upd_same⟩
    generalize (upd H1 s (.lst [.int 8])) = H2 at hB2 hc2 ⊢
    refine ⟨_, rfl, b, c, 9, rfl, by decide, by decide, hB2, fun r H3 r0 r1 hx3 hB3 => ?_⟩
    have hc3 := hc2.bx hB2 hx3
    obtain ⟨m, rfl⟩ := Int.eq_ofNat_of_zero_le r0
    refine ⟨(m : Int), rfl, by omega, by omega, fun D hD => ?_⟩
    have nDb : D ≠ b := by obtain ⟨o, e⟩ := hB3.at_b; exact (ne_of_none e hD).symm
    have nDc : D ≠ c := by obtain ⟨o, e⟩ := hB3.at_c; exact (ne_of_none e hD).symm
    have nDs : D ≠ s := (ne_of_none hc3.at_ hD).symm
    refine lc_range (lo := 0) (n := (m : Int).toNat) (fun i H' => BoxAt H' b c ∧ ∃ (cn' : Int) (acc : List V) (es : List En), CnAt H' b c s cn' ∧ 8 ≤ cn' ∧ cn' ≤ 8 + (i : Int) * 9 ∧ H' D = some (.lst acc) ∧ RpAll K H' acc (En.ds es) ∧ es.length = i ∧ (∀ e ∈ es, e.wf = true ∧ e.dep ≤ 2)) ?_ ?_ ?_
    · exact ⟨hB3.updD nDb nDc, 8, [], [], hc3.updD nDs, by omega, by omega, upd_same, .nil, rfl, by simp⟩
    · rintro i H' hi ⟨hB', cn', acc, es, hc', c1, c2, eD, hacc, el, hes⟩
      rw [Int.toNat_natCast] at hi
      refine ⟨rfl, tYes_do ?_⟩
      refine ⟨_, rfl, _, rfl, b, c, s, 2, cn', rfl, rfl, by omega, hB', hc', c1, by omega, fun r H2 e cn2 hv hB2 hc2 l1 l2 hr2 we de => ?_⟩
      have eD2 : H2 D = some (.lst acc) := hv _ _ nDb nDc nDs eD
      have kt := KT.upd_lst (o := .lst (acc ++ [r])) (NT.lst eD2)
      refine ⟨acc, eD2, small_lt ?_, hB2.updD nDb nDc, cn2, acc ++ [r], es ++ [e], hc2.updD nDs, by omega, by omega, upd_same, ends_app ((hacc.on (hB'.ktv hc' hv)).on kt) (.cons (hr2.on kt) .nil), by simp [el], ?_⟩
      · rw [hacc.length, ends_len]; omega
      · intro x mx
        rcases List.mem_append.mp mx with mx | mx
        · exact hes x mx
        · rw [List.mem_singleton.mp mx]; exact ⟨we, de⟩
    · rintro H4 ⟨hB4, cn4, acc, es, hc4, c1, c2, eD, hacc, el, hes⟩
      rw [Int.toNat_natCast] at el
      refine ⟨D, acc, rfl, .inl ⟨SqL.of eD, fun t ht => ?_⟩⟩
      have r_es : Rp K (upd H4 t (.tup acc)) (.ref t) (.tuple (En.ds es)) := Rp.mk upd_same (hacc.on (KT.upd_new ht))
      generalize (upd H4 t (.tup acc)) = H5 at r_es ⊢
      have we : En.wfs es = true := wfs_all.mpr fun e m => (hes e m).1
      have de : En.deps es ≤ 3 := Nat.le_trans (deps_le fun e m => (hes e m).2) (by decide)
      have le : es.length ≤ 8 := by omega
      have we1 : En.wfs (es.take 1) = true := wfs_all.mpr fun e m => (hes e (List.mem_of_mem_take m)).1
      have de1 : En.deps (es.take 1) ≤ 3 := Nat.le_trans (deps_le fun e m => (hes e (List.mem_of_mem_take m)).2) (by decide)
      have le1 : (es.take 1).length ≤ 8 := by rw [List.length_take]; omega
      clear hB4 hc4 eD hacc hB3 hc3 hB2 hc2 hB ht hD
      have eapp : ∀ l : List En, En.ds basisE ++ En.ds l = En.ds (basisE ++ l) := fun l => by rw [ends_map, ends_map, ends_map, List.map_append]
      have cap : ∀ {es : List En}, En.wfs es = true → En.deps es ≤ 3 → es.length ≤ 8 → (lvLines (basisE ++ es) 3 [] es).length ≤ 100000 := fun {es} a b c => Nat.le_trans (lv_ok (names_ok a b c) 3 [] (l := kept es) (fun e me => wfs_mem a (keptTo_mem me)) (Nat.le_trans (keptTo_len _ _) c)).1 (by decide)
      obtain ⟨bp, bq, hBA, r_b⟩ := basis_at T H5
      refine ⟨A.c_BASIS, _, _, _, rfl, rfl, hBA, at0, _, rfl, catA_rp (K := K) r_b r_es (by rw [ends_len, ends_len, basis_len]; exact small_le (by omega)) fun nm H6 s6 r_n => ?_⟩
      rw [eapp] at r_n
      have re6 := r_es.on (KT.same s6)
      refine ⟨_, rfl, _, rfl, nm, .ref t, basisE ++ es, es, rfl, ⟨names_ok we de le, r_n⟩, re6, we, de, le, fun p H7 s7 ep => ?_⟩
      refine ⟨_, rfl, _, _, _, _, _, rfl, .ty _, .base (.lst ep), kit_ty rfl, _, rfl, ?_⟩
      refine iteF (A := _) ?_
      refine ⟨_, rfl, p, _, rfl, .inl ⟨SqL.of ep, fun q hq => ?_⟩⟩
      have s8 : Sm H7 (upd H7 q (.tup ((lvLines (basisE ++ es) 3 [] es).map V.str))) := Sm.new hq
      have eq8 : (upd H7 q (.tup ((lvLines (basisE ++ es) 3 [] es).map V.str))) q = some (.tup ((lvLines (basisE ++ es) 3 [] es).map V.str)) := upd_same
      generalize (upd H7 q (.tup ((lvLines (basisE ++ es) 3 [] es).map V.str))) = H8 at s8 eq8 ⊢
      have s68 := Sm.sm s7 s8
      refine ⟨_, rfl, _, rfl, Nat.zero_le _, fun u hu => ?_⟩
      have s9 : Sm H8 (upd H8 u (.tup [])) := Sm.new hu
      have ru : Rp K (upd H8 u (.tup [])) (.ref u) (pathD []) := Rp.mk upd_same .nil
      have eq9 := s9 _ _ eq8
      generalize (upd H8 u (.tup [])) = H9 at s9 ru eq9 ⊢
      have s69 := Sm.sm s68 s9
      refine ⟨nm, .ref t, .ref u, basisE ++ es, [], es, rfl, ⟨⟨names_ok we de le, r_n.on (KT.same s69)⟩, ru⟩, by simp, by omega, re6.on (KT.same s69), we, de, le, fun z Ha sa ez => ⟨z, _, rfl, .inl ⟨SqL.of ez, fun q2 hq2 => ?_⟩⟩⟩
      refine ⟨q, q2, _, rfl, (Sm.new hq2) _ _ (sa _ _ eq9), upd_same, cap we de le, ?_⟩
      refine ⟨true, rfl, iteF (A := _) ?_⟩
      have sb : Sm H5 (upd Ha q2 (.tup ((lvLines (basisE ++ es) 3 [] es).map V.str))) := Sm.sm s6 (Sm.sm s69 (Sm.sm sa (Sm.new hq2)))
      generalize (upd Ha q2 (.tup ((lvLines (basisE ++ es) 3 [] es).map V.str))) = Hb at sb ⊢
      -- the first alone
      have re := r_es.on (KT.same sb)
      obtain ⟨bp', bq', hBA', r_b'⟩ := basis_at T Hb
      refine ⟨A.c_BASIS, _, _, _, rfl, rfl, hBA', at0, _, rfl, ?_⟩
      dsimp only [tNoPart]
      refine ⟨_, rfl, slA_first (K := K) re fun r1 Hc sc r_1 => ?_⟩
      refine catA_rp (K := K) (r_b'.on (KT.same sc)) r_1 (by rw [ends_len, ends_len, basis_len]; exact small_le (by omega)) fun nm2 Hd sd r_n2 => ?_
      rw [eapp] at r_n2
      have sbd : Sm Hb Hd := Sm.sm sc sd
      -- the report of it
      refine ⟨_, rfl, ?_⟩
      dsimp only [tNoPart]
      refine ⟨_, rfl, slA_first (K := K) (re.on (KT.same sbd)) fun r2 He se r_2 => ?_⟩
      refine ⟨_, rfl, nm2, r2, basisE ++ es.take 1, es.take 1, rfl, ⟨names_ok we1 de1 le1, r_n2.on (KT.same se)⟩, r_2, we1, de1, le1, fun p Hf sf ep2 => ?_⟩
      refine ⟨p, _, rfl, .inl ⟨SqL.of ep2, fun q hq => ?_⟩⟩
      have s8 : Sm Hf (upd Hf q (.tup ((lvLines (basisE ++ es.take 1) 3 [] (es.take 1)).map V.str))) := Sm.new hq
      have eq8 : (upd Hf q (.tup ((lvLines (basisE ++ es.take 1) 3 [] (es.take 1)).map V.str))) q = some (.tup ((lvLines (basisE ++ es.take 1) 3 [] (es.take 1)).map V.str)) := upd_same
      generalize (upd Hf q (.tup ((lvLines (basisE ++ es.take 1) 3 [] (es.take 1)).map V.str))) = Hg at s8 eq8 ⊢
      have sdg : Sm Hd Hg := Sm.sm se (Sm.sm sf s8)
      refine ⟨_, rfl, _, rfl, ?_⟩
      dsimp only [tNoPart]
      refine ⟨_, rfl, slA_first (K := K) (re.on (KT.same (Sm.sm sbd sdg))) fun r3 Hh sh3 r_3 => ?_⟩
      refine ⟨Nat.zero_le _, fun u hu => ?_⟩
      have s9 : Sm Hh (upd Hh u (.tup [])) := Sm.new hu
      have ru : Rp K (upd Hh u (.tup [])) (.ref u) (pathD []) := Rp.mk upd_same .nil
      have eq9 := s9 _ _ (sh3 _ _ eq8)
      generalize (upd Hh u (.tup [])) = Hi at s9 ru eq9 ⊢
      have sdi : Sm Hd Hi := Sm.sm sdg (Sm.sm sh3 s9)
      refine ⟨nm2, r3, .ref u, basisE ++ es.take 1, [], es.take 1, rfl, ⟨⟨names_ok we1 de1 le1, r_n2.on (KT.same sdi)⟩, ru⟩, by simp, by omega, r_3.on (KT.same s9), we1, de1, le1, fun z Hj sj ez => ⟨z, _, rfl, .inl ⟨SqL.of ez, fun q2 hq2 => ?_⟩⟩⟩
      exact ⟨q, q2, _, rfl, (Sm.new hq2) _ _ (sj _ _ eq9), upd_same, cap we1 de1 le1, k _⟩
end
end K87

set_option Elab.async false
set_option maxRecDepth 100000
set_option linter.all false
set_option maxHeartbeats 4000000
set_option pp.maxSteps 400
namespace K87
open PySem L2 GD AG RG
theorem all_mk {l : PySem.W.OpenLaw} {w : World} {K : PySem.W.Frag} {h : Heap} {mg : Str → Option Value} {fa : Addr} (X : K.In h) (G : h.Ns mainGlobals mg) (hfa : mg "law" = some (.ref fa))
    {f0 f1 f2 f3 f4 f5 f6 f7 f8 f9 f10 f11 f12 f13 f14 f15 f16 f17 f18 f19 f20 f21 f22 f23 f24 f25 f26 f27 f28 f29 f30 f31 f32 f33 f34 f35 f36 f37 f38 C_EXN C_BASIS : Addr} {od0 an0 od1 an1 od2 an2 od3 an3 od4 an4 od5 an5 od6 an6 od7 an7 od8 an8 od9 an9 od10 an10 od11 an11 od12 an12 od13 an13 od14 an14 od15 an15 od16 an16 od17 an17 od18 an18 od19 an19 od20 an20 od21 an21 od22 an22 od23 an23 od24 an24 od25 an25 od26 an26 od27 an27 od28 an28 od29 an29 od30 an30 od31 an31 od32 an32 od33 an33 od34 an34 od35 an35 od36 an36 od37 an37 od38 an38 : Option Addr} {sl0 sl1 sl2 sl3 sl4 sl5 sl6 sl7 sl8 sl9 sl10 sl11 sl12 sl13 sl14 sl15 sl16 sl17 sl18 sl19 sl20 sl21 sl22 sl23 sl24 sl25 sl26 sl27 sl28 sl29 sl30 sl31 sl32 sl33 sl34 sl35 sl36 sl37 sl38 : Array (Option Value)} {oc0 kV0 dc0 pm0 cd0 ct0 oc1 kV1 dc1 pm1 cd1 ct1 oc2 kV2 dc2 pm2 cd2 ct2 oc3 kV3 dc3 pm3 cd3 ct3 oc4 kV4 dc4 pm4 cd4 ct4 oc5 kV5 dc5 pm5 cd5 ct5 oc6 kV6 dc6 pm6 cd6 ct6 oc7 kV7 dc7 pm7 cd7 ct7 oc8 kV8 dc8 pm8 cd8 ct8 oc9 kV9 dc9 pm9 cd9 ct9 oc10 kV10 dc10 pm10 cd10 ct10 oc11 kV11 dc11 pm11 cd11 ct11 oc12 kV12 dc12 pm12 cd12 ct12 oc13 kV13 dc13 pm13 cd13 ct13 oc14 kV14 dc14 pm14 cd14 ct14 oc15 kV15 dc15 pm15 cd15 ct15 oc16 kV16 dc16 pm16 cd16 ct16 oc17 kV17 dc17 pm17 cd17 ct17 oc18 kV18 dc18 pm18 cd18 ct18 oc19 kV19 dc19 pm19 cd19 ct19 oc20 kV20 dc20 pm20 cd20 ct20 oc21 kV21 dc21 pm21 cd21 ct21 oc22 kV22 dc22 pm22 cd22 ct22 oc23 kV23 dc23 pm23 cd23 ct23 oc24 kV24 dc24 pm24 cd24 ct24 oc25 kV25 dc25 pm25 cd25 ct25 oc26 kV26 dc26 pm26 cd26 ct26 oc27 kV27 dc27 pm27 cd27 ct27 oc28 kV28 dc28 pm28 cd28 ct28 oc29 kV29 dc29 pm29 cd29 ct29 oc30 kV30 dc30 pm30 cd30 ct30 oc31 kV31 dc31 pm31 cd31 ct31 oc32 kV32 dc32 pm32 cd32 ct32 oc33 kV33 dc33 pm33 cd33 ct33 oc34 kV34 dc34 pm34 cd34 ct34 oc35 kV35 dc35 pm35 cd35 ct35 oc36 kV36 dc36 pm36 cd36 ct36 oc37 kV37 dc37 pm37 cd37 ct37 oc38 kV38 dc38 pm38 cd38 ct38 : Value} {t_FREE t_MAX_SIZE t_MAX_DEPTH t_LETTERS : Tok}
    (a0 : PySem.W.nsIn K mainGlobals "direct_parts" = some (some (.ref f0)))
    (l0 : K.lookup f0 = some ⟨oc0, od0, .func (PySem.W.fnOf "direct_parts" "direct_parts" (defArgs s_direct_parts) (defBody s_direct_parts) (defScope s_direct_parts) .none kV0 dc0 pm0 an0 cd0 ct0), sl0⟩) (c0 : PySem.W.codeIn K cd0 "direct_parts" = true) (k0 : PySem.W.keepIn K (.ref f0) = true)
    (a1 : PySem.W.nsIn K mainGlobals "with_parts" = some (some (.ref f1)))
    (l1 : K.lookup f1 = some ⟨oc1, od1, .func (PySem.W.fnOf "with_parts" "with_parts" (defArgs s_with_parts) (defBody s_with_parts) (defScope s_with_parts) .none kV1 dc1 pm1 an1 cd1 ct1), sl1⟩) (c1 : PySem.W.codeIn K cd1 "with_parts" = true) (k1 : PySem.W.keepIn K (.ref f1) = true)
    (a2 : PySem.W.nsIn K mainGlobals "within_bounds" = some (some (.ref f2)))
    (l2 : K.lookup f2 = some ⟨oc2, od2, .func (PySem.W.fnOf "within_bounds" "within_bounds" (defArgs s_within_bounds) (defBody s_within_bounds) (defScope s_within_bounds) .none kV2 dc2 pm2 an2 cd2 ct2), sl2⟩) (c2 : PySem.W.codeIn K cd2 "within_bounds" = true) (k2 : PySem.W.keepIn K (.ref f2) = true)
    (a3 : PySem.W.nsIn K mainGlobals "variables" = some (some (.ref f3)))
    (l3 : K.lookup f3 = some ⟨oc3, od3, .func (PySem.W.fnOf "variables" "variables" (defArgs s_variables) (defBody s_variables) (defScope s_variables) .none kV3 dc3 pm3 an3 cd3 ct3), sl3⟩) (c3 : PySem.W.codeIn K cd3 "variables" = true) (k3 : PySem.W.keepIn K (.ref f3) = true)
    (a4 : PySem.W.nsIn K mainGlobals "replace_variables" = some (some (.ref f4)))
    (l4 : K.lookup f4 = some ⟨oc4, od4, .func (PySem.W.fnOf "replace_variables" "replace_variables" (defArgs s_replace_variables) (defBody s_replace_variables) (defScope s_replace_variables) .none kV4 dc4 pm4 an4 cd4 ct4), sl4⟩) (c4 : PySem.W.codeIn K cd4 "replace_variables" = true) (k4 : PySem.W.keepIn K (.ref f4) = true)
    (a5 : PySem.W.nsIn K mainGlobals "substitute" = some (some (.ref f5)))
    (l5 : K.lookup f5 = some ⟨oc5, od5, .func (PySem.W.fnOf "substitute" "substitute" (defArgs s_substitute) (defBody s_substitute) (defScope s_substitute) .none kV5 dc5 pm5 an5 cd5 ct5), sl5⟩) (c5 : PySem.W.codeIn K cd5 "substitute" = true) (k5 : PySem.W.keepIn K (.ref f5) = true)
    (a6 : PySem.W.nsIn K mainGlobals "space_of" = some (some (.ref f6)))
    (l6 : K.lookup f6 = some ⟨oc6, od6, .func (PySem.W.fnOf "space_of" "space_of" (defArgs s_space_of) (defBody s_space_of) (defScope s_space_of) .none kV6 dc6 pm6 an6 cd6 ct6), sl6⟩) (c6 : PySem.W.codeIn K cd6 "space_of" = true) (k6 : PySem.W.keepIn K (.ref f6) = true)
    (a7 : PySem.W.nsIn K mainGlobals "last_entry" = some (some (.ref f7)))
    (l7 : K.lookup f7 = some ⟨oc7, od7, .func (PySem.W.fnOf "last_entry" "last_entry" (defArgs s_last_entry) (defBody s_last_entry) (defScope s_last_entry) .none kV7 dc7 pm7 an7 cd7 ct7), sl7⟩) (c7 : PySem.W.codeIn K cd7 "last_entry" = true) (k7 : PySem.W.keepIn K (.ref f7) = true)
    (a8 : PySem.W.nsIn K mainGlobals "lookup" = some (some (.ref f8)))
    (l8 : K.lookup f8 = some ⟨oc8, od8, .func (PySem.W.fnOf "lookup" "lookup" (defArgs s_lookup) (defBody s_lookup) (defScope s_lookup) .none kV8 dc8 pm8 an8 cd8 ct8), sl8⟩) (c8 : PySem.W.codeIn K cd8 "lookup" = true) (k8 : PySem.W.keepIn K (.ref f8) = true)
    (a9 : PySem.W.nsIn K mainGlobals "renumber" = some (some (.ref f9)))
    (l9 : K.lookup f9 = some ⟨oc9, od9, .func (PySem.W.fnOf "renumber" "renumber" (defArgs s_renumber) (defBody s_renumber) (defScope s_renumber) .none kV9 dc9 pm9 an9 cd9 ct9), sl9⟩) (c9 : PySem.W.codeIn K cd9 "renumber" = true) (k9 : PySem.W.keepIn K (.ref f9) = true)
    (a10 : PySem.W.nsIn K mainGlobals "constructor_scheme" = some (some (.ref f10)))
    (l10 : K.lookup f10 = some ⟨oc10, od10, .func (PySem.W.fnOf "constructor_scheme" "constructor_scheme" (defArgs s_constructor_scheme) (defBody s_constructor_scheme) (defScope s_constructor_scheme) .none kV10 dc10 pm10 an10 cd10 ct10), sl10⟩) (c10 : PySem.W.codeIn K cd10 "constructor_scheme" = true) (k10 : PySem.W.keepIn K (.ref f10) = true)
    (a11 : PySem.W.nsIn K mainGlobals "general_name" = some (some (.ref f11)))
    (l11 : K.lookup f11 = some ⟨oc11, od11, .func (PySem.W.fnOf "general_name" "general_name" (defArgs s_general_name) (defBody s_general_name) (defScope s_general_name) .none kV11 dc11 pm11 an11 cd11 ct11), sl11⟩) (c11 : PySem.W.codeIn K cd11 "general_name" = true) (k11 : PySem.W.keepIn K (.ref f11) = true)
    (a12 : PySem.W.nsIn K mainGlobals "parameters" = some (some (.ref f12)))
    (l12 : K.lookup f12 = some ⟨oc12, od12, .func (PySem.W.fnOf "parameters" "parameters" (defArgs s_parameters) (defBody s_parameters) (defScope s_parameters) .none kV12 dc12 pm12 an12 cd12 ct12), sl12⟩) (c12 : PySem.W.codeIn K cd12 "parameters" = true) (k12 : PySem.W.keepIn K (.ref f12) = true)
    (a13 : PySem.W.nsIn K mainGlobals "stamp_of" = some (some (.ref f13)))
    (l13 : K.lookup f13 = some ⟨oc13, od13, .func (PySem.W.fnOf "stamp_of" "stamp_of" (defArgs s_stamp_of) (defBody s_stamp_of) (defScope s_stamp_of) .none kV13 dc13 pm13 an13 cd13 ct13), sl13⟩) (c13 : PySem.W.codeIn K cd13 "stamp_of" = true) (k13 : PySem.W.keepIn K (.ref f13) = true)
    (a14 : PySem.W.nsIn K mainGlobals "shape_paths" = some (some (.ref f14)))
    (l14 : K.lookup f14 = some ⟨oc14, od14, .func (PySem.W.fnOf "shape_paths" "shape_paths" (defArgs s_shape_paths) (defBody s_shape_paths) (defScope s_shape_paths) .none kV14 dc14 pm14 an14 cd14 ct14), sl14⟩) (c14 : PySem.W.codeIn K cd14 "shape_paths" = true) (k14 : PySem.W.keepIn K (.ref f14) = true)
    (a15 : PySem.W.nsIn K mainGlobals "stamp_path" = some (some (.ref f15)))
    (l15 : K.lookup f15 = some ⟨oc15, od15, .func (PySem.W.fnOf "stamp_path" "stamp_path" (defArgs s_stamp_path) (defBody s_stamp_path) (defScope s_stamp_path) .none kV15 dc15 pm15 an15 cd15 ct15), sl15⟩) (c15 : PySem.W.codeIn K cd15 "stamp_path" = true) (k15 : PySem.W.keepIn K (.ref f15) = true)
    (a16 : PySem.W.nsIn K mainGlobals "stamp_text" = some (some (.ref f16)))
    (l16 : K.lookup f16 = some ⟨oc16, od16, .func (PySem.W.fnOf "stamp_text" "stamp_text" (defArgs s_stamp_text) (defBody s_stamp_text) (defScope s_stamp_text) .none kV16 dc16 pm16 an16 cd16 ct16), sl16⟩) (c16 : PySem.W.codeIn K cd16 "stamp_text" = true) (k16 : PySem.W.keepIn K (.ref f16) = true)
    (a17 : PySem.W.nsIn K mainGlobals "variable_text" = some (some (.ref f17)))
    (l17 : K.lookup f17 = some ⟨oc17, od17, .func (PySem.W.fnOf "variable_text" "variable_text" (defArgs s_variable_text) (defBody s_variable_text) (defScope s_variable_text) .none kV17 dc17 pm17 an17 cd17 ct17), sl17⟩) (c17 : PySem.W.codeIn K cd17 "variable_text" = true) (k17 : PySem.W.keepIn K (.ref f17) = true)
    (a18 : PySem.W.nsIn K mainGlobals "enclosed" = some (some (.ref f18)))
    (l18 : K.lookup f18 = some ⟨oc18, od18, .func (PySem.W.fnOf "enclosed" "enclosed" (defArgs s_enclosed) (defBody s_enclosed) (defScope s_enclosed) .none kV18 dc18 pm18 an18 cd18 ct18), sl18⟩) (c18 : PySem.W.codeIn K cd18 "enclosed" = true) (k18 : PySem.W.keepIn K (.ref f18) = true)
    (a19 : PySem.W.nsIn K mainGlobals "text_of" = some (some (.ref f19)))
    (l19 : K.lookup f19 = some ⟨oc19, od19, .func (PySem.W.fnOf "text_of" "text_of" (defArgs s_text_of) (defBody s_text_of) (defScope s_text_of) .none kV19 dc19 pm19 an19 cd19 ct19), sl19⟩) (c19 : PySem.W.codeIn K cd19 "text_of" = true) (k19 : PySem.W.keepIn K (.ref f19) = true)
    (a20 : PySem.W.nsIn K mainGlobals "shape_text" = some (some (.ref f20)))
    (l20 : K.lookup f20 = some ⟨oc20, od20, .func (PySem.W.fnOf "shape_text" "shape_text" (defArgs s_shape_text) (defBody s_shape_text) (defScope s_shape_text) .none kV20 dc20 pm20 an20 cd20 ct20), sl20⟩) (c20 : PySem.W.codeIn K cd20 "shape_text" = true) (k20 : PySem.W.keepIn K (.ref f20) = true)
    (a21 : PySem.W.nsIn K mainGlobals "parameter_text" = some (some (.ref f21)))
    (l21 : K.lookup f21 = some ⟨oc21, od21, .func (PySem.W.fnOf "parameter_text" "parameter_text" (defArgs s_parameter_text) (defBody s_parameter_text) (defScope s_parameter_text) .none kV21 dc21 pm21 an21 cd21 ct21), sl21⟩) (c21 : PySem.W.codeIn K cd21 "parameter_text" = true) (k21 : PySem.W.keepIn K (.ref f21) = true)
    (a22 : PySem.W.nsIn K mainGlobals "shape_line" = some (some (.ref f22)))
    (l22 : K.lookup f22 = some ⟨oc22, od22, .func (PySem.W.fnOf "shape_line" "shape_line" (defArgs s_shape_line) (defBody s_shape_line) (defScope s_shape_line) .none kV22 dc22 pm22 an22 cd22 ct22), sl22⟩) (c22 : PySem.W.codeIn K cd22 "shape_line" = true) (k22 : PySem.W.keepIn K (.ref f22) = true)
    (a23 : PySem.W.nsIn K mainGlobals "entry_lines" = some (some (.ref f23)))
    (l23 : K.lookup f23 = some ⟨oc23, od23, .func (PySem.W.fnOf "entry_lines" "entry_lines" (defArgs s_entry_lines) (defBody s_entry_lines) (defScope s_entry_lines) .none kV23 dc23 pm23 an23 cd23 ct23), sl23⟩) (c23 : PySem.W.codeIn K cd23 "entry_lines" = true) (k23 : PySem.W.keepIn K (.ref f23) = true)
    (a24 : PySem.W.nsIn K mainGlobals "space_of_entry" = some (some (.ref f24)))
    (l24 : K.lookup f24 = some ⟨oc24, od24, .func (PySem.W.fnOf "space_of_entry" "space_of_entry" (defArgs s_space_of_entry) (defBody s_space_of_entry) (defScope s_space_of_entry) .none kV24 dc24 pm24 an24 cd24 ct24), sl24⟩) (c24 : PySem.W.codeIn K cd24 "space_of_entry" = true) (k24 : PySem.W.keepIn K (.ref f24) = true)
    (a25 : PySem.W.nsIn K mainGlobals "level_lines" = some (some (.ref f25)))
    (l25 : K.lookup f25 = some ⟨oc25, od25, .func (PySem.W.fnOf "level_lines" "level_lines" (defArgs s_level_lines) (defBody s_level_lines) (defScope s_level_lines) .none kV25 dc25 pm25 an25 cd25 ct25), sl25⟩) (c25 : PySem.W.codeIn K cd25 "level_lines" = true) (k25 : PySem.W.keepIn K (.ref f25) = true)
    (a26 : PySem.W.nsIn K mainGlobals "report" = some (some (.ref f26)))
    (l26 : K.lookup f26 = some ⟨oc26, od26, .func (PySem.W.fnOf "report" "report" (defArgs s_report) (defBody s_report) (defScope s_report) .none kV26 dc26 pm26 an26 cd26 ct26), sl26⟩) (c26 : PySem.W.codeIn K cd26 "report" = true) (k26 : PySem.W.keepIn K (.ref f26) = true)
    (a27 : PySem.W.nsIn K mainGlobals "_law_same" = some (some (.ref f27)))
    (l27 : K.lookup f27 = some ⟨oc27, od27, .func (PySem.W.fnOf "_law_same" "_law_same" (defArgs s__law_same) (defBody s__law_same) (defScope s__law_same) .none kV27 dc27 pm27 an27 cd27 ct27), sl27⟩) (c27 : PySem.W.codeIn K cd27 "_law_same" = true) (k27 : PySem.W.keepIn K (.ref f27) = true)
    (a28 : PySem.W.nsIn K mainGlobals "_law_box" = some (some (.ref f28)))
    (l28 : K.lookup f28 = some ⟨oc28, od28, .func (PySem.W.fnOf "_law_box" "_law_box" (defArgs s__law_box) (defBody s__law_box) (defScope s__law_box) .none kV28 dc28 pm28 an28 cd28 ct28), sl28⟩) (c28 : PySem.W.codeIn K cd28 "_law_box" = true) (k28 : PySem.W.keepIn K (.ref f28) = true)
    (a29 : PySem.W.nsIn K mainGlobals "_law_load" = some (some (.ref f29)))
    (l29 : K.lookup f29 = some ⟨oc29, od29, .func (PySem.W.fnOf "_law_load" "_law_load" (defArgs s__law_load) (defBody s__law_load) (defScope s__law_load) .none kV29 dc29 pm29 an29 cd29 ct29), sl29⟩) (c29 : PySem.W.codeIn K cd29 "_law_load" = true) (k29 : PySem.W.keepIn K (.ref f29) = true)
    (a30 : PySem.W.nsIn K mainGlobals "_law_draw" = some (some (.ref f30)))
    (l30 : K.lookup f30 = some ⟨oc30, od30, .func (PySem.W.fnOf "_law_draw" "_law_draw" (defArgs s__law_draw) (defBody s__law_draw) (defScope s__law_draw) .none kV30 dc30 pm30 an30 cd30 ct30), sl30⟩) (c30 : PySem.W.codeIn K cd30 "_law_draw" = true) (k30 : PySem.W.keepIn K (.ref f30) = true)
    (a31 : PySem.W.nsIn K mainGlobals "_law_entry" = some (some (.ref f31)))
    (l31 : K.lookup f31 = some ⟨oc31, od31, .func (PySem.W.fnOf "_law_entry" "_law_entry" (defArgs s__law_entry) (defBody s__law_entry) (defScope s__law_entry) .none kV31 dc31 pm31 an31 cd31 ct31), sl31⟩) (c31 : PySem.W.codeIn K cd31 "_law_entry" = true) (k31 : PySem.W.keepIn K (.ref f31) = true)
    (a32 : PySem.W.nsIn K mainGlobals "_law_space" = some (some (.ref f32)))
    (l32 : K.lookup f32 = some ⟨oc32, od32, .func (PySem.W.fnOf "_law_space" "_law_space" (defArgs s__law_space) (defBody s__law_space) (defScope s__law_space) .none kV32 dc32 pm32 an32 cd32 ct32), sl32⟩) (c32 : PySem.W.codeIn K cd32 "_law_space" = true) (k32 : PySem.W.keepIn K (.ref f32) = true)
    (a33 : PySem.W.nsIn K mainGlobals "_law_kept" = some (some (.ref f33)))
    (l33 : K.lookup f33 = some ⟨oc33, od33, .func (PySem.W.fnOf "_law_kept" "_law_kept" (defArgs s__law_kept) (defBody s__law_kept) (defScope s__law_kept) .none kV33 dc33 pm33 an33 cd33 ct33), sl33⟩) (c33 : PySem.W.codeIn K cd33 "_law_kept" = true) (k33 : PySem.W.keepIn K (.ref f33) = true)
    (a34 : PySem.W.nsIn K mainGlobals "_law_paths" = some (some (.ref f34)))
    (l34 : K.lookup f34 = some ⟨oc34, od34, .func (PySem.W.fnOf "_law_paths" "_law_paths" (defArgs s__law_paths) (defBody s__law_paths) (defScope s__law_paths) .none kV34 dc34 pm34 an34 cd34 ct34), sl34⟩) (c34 : PySem.W.codeIn K cd34 "_law_paths" = true) (k34 : PySem.W.keepIn K (.ref f34) = true)
    (a35 : PySem.W.nsIn K mainGlobals "_law_found" = some (some (.ref f35)))
    (l35 : K.lookup f35 = some ⟨oc35, od35, .func (PySem.W.fnOf "_law_found" "_law_found" (defArgs s__law_found) (defBody s__law_found) (defScope s__law_found) .none kV35 dc35 pm35 an35 cd35 ct35), sl35⟩) (c35 : PySem.W.codeIn K cd35 "_law_found" = true) (k35 : PySem.W.keepIn K (.ref f35) = true)
    (a36 : PySem.W.nsIn K mainGlobals "_law_is_name" = some (some (.ref f36)))
    (l36 : K.lookup f36 = some ⟨oc36, od36, .func (PySem.W.fnOf "_law_is_name" "_law_is_name" (defArgs s__law_is_name) (defBody s__law_is_name) (defScope s__law_is_name) .none kV36 dc36 pm36 an36 cd36 ct36), sl36⟩) (c36 : PySem.W.codeIn K cd36 "_law_is_name" = true) (k36 : PySem.W.keepIn K (.ref f36) = true)
    (a37 : PySem.W.nsIn K mainGlobals "_law_lines" = some (some (.ref f37)))
    (l37 : K.lookup f37 = some ⟨oc37, od37, .func (PySem.W.fnOf "_law_lines" "_law_lines" (defArgs s__law_lines) (defBody s__law_lines) (defScope s__law_lines) .none kV37 dc37 pm37 an37 cd37 ct37), sl37⟩) (c37 : PySem.W.codeIn K cd37 "_law_lines" = true) (k37 : PySem.W.keepIn K (.ref f37) = true)
    (a38 : PySem.W.nsIn K mainGlobals "law" = some (some (.ref f38)))
    (l38 : K.lookup f38 = some ⟨oc38, od38, .func (PySem.W.fnOf "law" "law" (defArgs s_law) (defBody s_law) (defScope s_law) .none kV38 dc38 pm38 an38 cd38 ct38), sl38⟩) (c38 : PySem.W.codeIn K cd38 "law" = true) (k38 : PySem.W.keepIn K (.ref f38) = true)
    (z_FREE : PySem.W.nsIn K mainGlobals "FREE" = some (some (.int 1000000 t_FREE)))
    (z_MAX_SIZE : PySem.W.nsIn K mainGlobals "MAX_SIZE" = some (some (.int 2000 t_MAX_SIZE)))
    (z_MAX_DEPTH : PySem.W.nsIn K mainGlobals "MAX_DEPTH" = some (some (.int 100 t_MAX_DEPTH)))
    (z_EXN : PySem.W.nsIn K mainGlobals "EXN" = some (some (.ref C_EXN))) (y_EXN : GD.rdK K 14 (.ref C_EXN) = some EXN_D)
    (z_LETTERS : PySem.W.nsIn K mainGlobals "LETTERS" = some (some (.str "abcdefghijklmnopqrstuvwxyz" t_LETTERS)))
    (z_BASIS : PySem.W.nsIn K mainGlobals "BASIS" = some (some (.ref C_BASIS))) (y_BASIS : GD.rdK K 14 (.ref C_BASIS) = some BASIS_D)
    (zn_bool : PySem.W.nsIn K mainGlobals "bool" = some none)
    (zn_int : PySem.W.nsIn K mainGlobals "int" = some none)
    (zn_isinstance : PySem.W.nsIn K mainGlobals "isinstance" = some none)
    (zn_len : PySem.W.nsIn K mainGlobals "len" = some none)
    (zn_list : PySem.W.nsIn K mainGlobals "list" = some none)
    (zn_range : PySem.W.nsIn K mainGlobals "range" = some none)
    (zn_reversed : PySem.W.nsIn K mainGlobals "reversed" = some none)
    (zn_str : PySem.W.nsIn K mainGlobals "str" = some none)
    (zn_tuple : PySem.W.nsIn K mainGlobals "tuple" = some none)
    : ∃ fd : FuncData, (∀ (s : Shared) (v : Value), BindsTo s fd ⟨[v], []⟩ [("script", v)]) ∧ ∀ base : Heap, K.In base → base.Ns mainGlobals mg → FnOk l.prog w K mg base CX0 53 fa fd ["script"] (spLaw K) := by
  have e := hfa.symm.trans (PySem.W.mg_of X G a38)
  cases e
  have F0 := fun_mk (st := s_direct_parts) l0 c0 k0
  have b0 := F0.binds (ps := ["shape"]) fun _ _ _ _ _ _ us hl => match us, hl with | [_], _ => rfl
  have F1 := fun_mk (st := s_with_parts) l1 c1 k1
  have b1 := F1.binds (ps := ["shape", "new_parts"]) fun _ _ _ _ _ _ us hl => match us, hl with | [_, _], _ => rfl
  have F2 := fun_mk (st := s_within_bounds) l2 c2 k2
  have b2 := F2.binds (ps := ["shape"]) fun _ _ _ _ _ _ us hl => match us, hl with | [_], _ => rfl
  have F3 := fun_mk (st := s_variables) l3 c3 k3
  have b3 := F3.binds (ps := ["shape"]) fun _ _ _ _ _ _ us hl => match us, hl with | [_], _ => rfl
  have F4 := fun_mk (st := s_replace_variables) l4 c4 k4
  have b4 := F4.binds (ps := ["shape", "mapping"]) fun _ _ _ _ _ _ us hl => match us, hl with | [_, _], _ => rfl
  have F5 := fun_mk (st := s_substitute) l5 c5 k5
  have b5 := F5.binds (ps := ["shape", "mapping"]) fun _ _ _ _ _ _ us hl => match us, hl with | [_, _], _ => rfl
  have F6 := fun_mk (st := s_space_of) l6 c6 k6
  have b6 := F6.binds (ps := ["entry"]) fun _ _ _ _ _ _ us hl => match us, hl with | [_], _ => rfl
  have F7 := fun_mk (st := s_last_entry) l7 c7 k7
  have b7 := F7.binds (ps := ["entries", "space", "name"]) fun _ _ _ _ _ _ us hl => match us, hl with | [_, _, _], _ => rfl
  have F8 := fun_mk (st := s_lookup) l8 c8 k8
  have b8 := F8.binds (ps := ["entries", "space", "path"]) fun _ _ _ _ _ _ us hl => match us, hl with | [_, _, _], _ => rfl
  have F9 := fun_mk (st := s_renumber) l9 c9 k9
  have b9 := F9.binds (ps := ["shape"]) fun _ _ _ _ _ _ us hl => match us, hl with | [_], _ => rfl
  have F10 := fun_mk (st := s_constructor_scheme) l10 c10 k10
  have b10 := F10.binds (ps := ["entry"]) fun _ _ _ _ _ _ us hl => match us, hl with | [_], _ => rfl
  have F11 := fun_mk (st := s_general_name) l11 c11 k11
  have b11 := F11.binds (ps := ["number"]) fun _ _ _ _ _ _ us hl => match us, hl with | [_], _ => rfl
  have F12 := fun_mk (st := s_parameters) l12 c12 k12
  have b12 := F12.binds (ps := ["k"]) fun _ _ _ _ _ _ us hl => match us, hl with | [_], _ => rfl
  have F13 := fun_mk (st := s_stamp_of) l13 c13 k13
  have b13 := F13.binds (ps := ["entry"]) fun _ _ _ _ _ _ us hl => match us, hl with | [_], _ => rfl
  have F14 := fun_mk (st := s_shape_paths) l14 c14 k14
  have b14 := F14.binds (ps := ["entries", "head"]) fun _ _ _ _ _ _ us hl => match us, hl with | [_, _], _ => rfl
  have F15 := fun_mk (st := s_stamp_path) l15 c15 k15
  have b15 := F15.binds (ps := ["names", "stamp"]) fun _ _ _ _ _ _ us hl => match us, hl with | [_, _], _ => rfl
  have F16 := fun_mk (st := s_stamp_text) l16 c16 k16
  have b16 := F16.binds (ps := ["names", "stamp"]) fun _ _ _ _ _ _ us hl => match us, hl with | [_, _], _ => rfl
  have F17 := fun_mk (st := s_variable_text) l17 c17 k17
  have b17 := F17.binds (ps := ["number", "free"]) fun _ _ _ _ _ _ us hl => match us, hl with | [_, _], _ => rfl
  have F18 := fun_mk (st := s_enclosed) l18 c18 k18
  have b18 := F18.binds (ps := ["text", "shape", "tags"]) fun _ _ _ _ _ _ us hl => match us, hl with | [_, _, _], _ => rfl
  have F19 := fun_mk (st := s_text_of) l19 c19 k19
  have b19 := F19.binds (ps := ["names", "shape", "free"]) fun _ _ _ _ _ _ us hl => match us, hl with | [_, _, _], _ => rfl
  have F20 := fun_mk (st := s_shape_text) l20 c20 k20
  have b20 := F20.binds (ps := ["names", "shape"]) fun _ _ _ _ _ _ us hl => match us, hl with | [_, _], _ => rfl
  have F21 := fun_mk (st := s_parameter_text) l21 c21 k21
  have b21 := F21.binds (ps := ["k"]) fun _ _ _ _ _ _ us hl => match us, hl with | [_], _ => rfl
  have F22 := fun_mk (st := s_shape_line) l22 c22 k22
  have b22 := F22.binds (ps := ["names", "entry", "head"]) fun _ _ _ _ _ _ us hl => match us, hl with | [_, _, _], _ => rfl
  have F23 := fun_mk (st := s_entry_lines) l23 c23 k23
  have b23 := F23.binds (ps := ["names", "entry", "head"]) fun _ _ _ _ _ _ us hl => match us, hl with | [_, _, _], _ => rfl
  have F24 := fun_mk (st := s_space_of_entry) l24 c24 k24
  have b24 := F24.binds (ps := ["entry"]) fun _ _ _ _ _ _ us hl => match us, hl with | [_], _ => rfl
  have F25 := fun_mk (st := s_level_lines) l25 c25 k25
  have b25 := F25.binds (ps := ["names", "entries", "head"]) fun _ _ _ _ _ _ us hl => match us, hl with | [_, _, _], _ => rfl
  have F26 := fun_mk (st := s_report) l26 c26 k26
  have b26 := F26.binds (ps := ["entries", "names"]) fun _ _ _ _ _ _ us hl => match us, hl with | [_, _], _ => rfl
  have F27 := fun_mk (st := s__law_same) l27 c27 k27
  have b27 := F27.binds (ps := ["a", "b"]) fun _ _ _ _ _ _ us hl => match us, hl with | [_, _], _ => rfl
  have F28 := fun_mk (st := s__law_box) l28 c28 k28
  have b28 := F28.binds (ps := ["script", "nodes"]) fun _ _ _ _ _ _ us hl => match us, hl with | [_, _], _ => rfl
  have F29 := fun_mk (st := s__law_load) l29 c29 k29
  have b29 := F29.binds (ps := ["box"]) fun _ _ _ _ _ _ us hl => match us, hl with | [_], _ => rfl
  have F30 := fun_mk (st := s__law_draw) l30 c30 k30
  have b30 := F30.binds (ps := ["box", "many"]) fun _ _ _ _ _ _ us hl => match us, hl with | [_, _], _ => rfl
  have F31 := fun_mk (st := s__law_entry) l31 c31 k31
  have b31 := F31.binds (ps := ["box", "stamps", "deep"]) fun _ _ _ _ _ _ us hl => match us, hl with | [_, _, _], _ => rfl
  have F32 := fun_mk (st := s__law_space) l32 c32 k32
  have b32 := F32.binds (ps := ["entry"]) fun _ _ _ _ _ _ us hl => match us, hl with | [_], _ => rfl
  have F33 := fun_mk (st := s__law_kept) l33 c33 k33
  have b33 := F33.binds (ps := ["entries"]) fun _ _ _ _ _ _ us hl => match us, hl with | [_], _ => rfl
  have F34 := fun_mk (st := s__law_paths) l34 c34 k34
  have b34 := F34.binds (ps := ["entries", "head"]) fun _ _ _ _ _ _ us hl => match us, hl with | [_, _], _ => rfl
  have F35 := fun_mk (st := s__law_found) l35 c35 k35
  have b35 := F35.binds (ps := ["names", "path"]) fun _ _ _ _ _ _ us hl => match us, hl with | [_, _], _ => rfl
  have F36 := fun_mk (st := s__law_is_name) l36 c36 k36
  have b36 := F36.binds (ps := ["names", "entry", "path"]) fun _ _ _ _ _ _ us hl => match us, hl with | [_, _, _], _ => rfl
  have F37 := fun_mk (st := s__law_lines) l37 c37 k37
  have b37 := F37.binds (ps := ["names", "entries", "head"]) fun _ _ _ _ _ _ us hl => match us, hl with | [_, _, _], _ => rfl
  have F38 := fun_mk (st := s_law) l38 c38 k38
  have b38 := F38.binds (ps := ["script"]) fun _ _ _ _ _ _ us hl => match us, hl with | [_], _ => rfl
  have T : Txt K mg { f_direct_parts := f0, d_direct_parts := _, f_with_parts := f1, d_with_parts := _, f_within_bounds := f2, d_within_bounds := _, f_variables := f3, d_variables := _, f_replace_variables := f4, d_replace_variables := _, f_substitute := f5, d_substitute := _, f_space_of := f6, d_space_of := _, f_last_entry := f7, d_last_entry := _, f_lookup := f8, d_lookup := _, f_renumber := f9, d_renumber := _, f_constructor_scheme := f10, d_constructor_scheme := _, f_general_name := f11, d_general_name := _, f_parameters := f12, d_parameters := _, f_stamp_of := f13, d_stamp_of := _, f_shape_paths := f14, d_shape_paths := _, f_stamp_path := f15, d_stamp_path := _, f_stamp_text := f16, d_stamp_text := _, f_variable_text := f17, d_variable_text := _, f_enclosed := f18, d_enclosed := _, f_text_of := f19, d_text_of := _, f_shape_text := f20, d_shape_text := _, f_parameter_text := f21, d_parameter_text := _, f_shape_line := f22, d_shape_line := _, f_entry_lines := f23, d_entry_lines := _, f_space_of_entry := f24, d_space_of_entry := _, f_level_lines := f25, d_level_lines := _, f_report := f26, d_report := _, f__law_same := f27, d__law_same := _, f__law_box := f28, d__law_box := _, f__law_load := f29, d__law_load := _, f__law_draw := f30, d__law_draw := _, f__law_entry := f31, d__law_entry := _, f__law_space := f32, d__law_space := _, f__law_kept := f33, d__law_kept := _, f__law_paths := f34, d__law_paths := _, f__law_found := f35, d__law_found := _, f__law_is_name := f36, d__law_is_name := _, f__law_lines := f37, d__law_lines := _, f_law := fa, d_law := _, c_FREE := t_FREE, c_MAX_SIZE := t_MAX_SIZE, c_MAX_DEPTH := t_MAX_DEPTH, c_EXN := C_EXN, c_LETTERS := t_LETTERS, c_BASIS := C_BASIS } := { F_direct_parts := F0, b_direct_parts := b0, g_direct_parts := PySem.W.mg_of X G a0, F_with_parts := F1, b_with_parts := b1, g_with_parts := PySem.W.mg_of X G a1, F_within_bounds := F2, b_within_bounds := b2, g_within_bounds := PySem.W.mg_of X G a2, F_variables := F3, b_variables := b3, g_variables := PySem.W.mg_of X G a3, F_replace_variables := F4, b_replace_variables := b4, g_replace_variables := PySem.W.mg_of X G a4, F_substitute := F5, b_substitute := b5, g_substitute := PySem.W.mg_of X G a5, F_space_of := F6, b_space_of := b6, g_space_of := PySem.W.mg_of X G a6, F_last_entry := F7, b_last_entry := b7, g_last_entry := PySem.W.mg_of X G a7, F_lookup := F8, b_lookup := b8, g_lookup := PySem.W.mg_of X G a8, F_renumber := F9, b_renumber := b9, g_renumber := PySem.W.mg_of X G a9, F_constructor_scheme := F10, b_constructor_scheme := b10, g_constructor_scheme := PySem.W.mg_of X G a10, F_general_name := F11, b_general_name := b11, g_general_name := PySem.W.mg_of X G a11, F_parameters := F12, b_parameters := b12, g_parameters := PySem.W.mg_of X G a12, F_stamp_of := F13, b_stamp_of := b13, g_stamp_of := PySem.W.mg_of X G a13, F_shape_paths := F14, b_shape_paths := b14, g_shape_paths := PySem.W.mg_of X G a14, F_stamp_path := F15, b_stamp_path := b15, g_stamp_path := PySem.W.mg_of X G a15, F_stamp_text := F16, b_stamp_text := b16, g_stamp_text := PySem.W.mg_of X G a16, F_variable_text := F17, b_variable_text := b17, g_variable_text := PySem.W.mg_of X G a17, F_enclosed := F18, b_enclosed := b18, g_enclosed := PySem.W.mg_of X G a18, F_text_of := F19, b_text_of := b19, g_text_of := PySem.W.mg_of X G a19, F_shape_text := F20, b_shape_text := b20, g_shape_text := PySem.W.mg_of X G a20, F_parameter_text := F21, b_parameter_text := b21, g_parameter_text := PySem.W.mg_of X G a21, F_shape_line := F22, b_shape_line := b22, g_shape_line := PySem.W.mg_of X G a22, F_entry_lines := F23, b_entry_lines := b23, g_entry_lines := PySem.W.mg_of X G a23, F_space_of_entry := F24, b_space_of_entry := b24, g_space_of_entry := PySem.W.mg_of X G a24, F_level_lines := F25, b_level_lines := b25, g_level_lines := PySem.W.mg_of X G a25, F_report := F26, b_report := b26, g_report := PySem.W.mg_of X G a26, F__law_same := F27, b__law_same := b27, g__law_same := PySem.W.mg_of X G a27, F__law_box := F28, b__law_box := b28, g__law_box := PySem.W.mg_of X G a28, F__law_load := F29, b__law_load := b29, g__law_load := PySem.W.mg_of X G a29, F__law_draw := F30, b__law_draw := b30, g__law_draw := PySem.W.mg_of X G a30, F__law_entry := F31, b__law_entry := b31, g__law_entry := PySem.W.mg_of X G a31, F__law_space := F32, b__law_space := b32, g__law_space := PySem.W.mg_of X G a32, F__law_kept := F33, b__law_kept := b33, g__law_kept := PySem.W.mg_of X G a33, F__law_paths := F34, b__law_paths := b34, g__law_paths := PySem.W.mg_of X G a34, F__law_found := F35, b__law_found := b35, g__law_found := PySem.W.mg_of X G a35, F__law_is_name := F36, b__law_is_name := b36, g__law_is_name := PySem.W.mg_of X G a36, F__law_lines := F37, b__law_lines := b37, g__law_lines := PySem.W.mg_of X G a37, F_law := F38, b_law := b38, g_law := PySem.W.mg_of X G a38, g_FREE := PySem.W.mg_of X G z_FREE, g_MAX_SIZE := PySem.W.mg_of X G z_MAX_SIZE, g_MAX_DEPTH := PySem.W.mg_of X G z_MAX_DEPTH, g_EXN := PySem.W.mg_of X G z_EXN, y_EXN := fun H => GD.rdK_ref y_EXN H, g_LETTERS := PySem.W.mg_of X G z_LETTERS, g_BASIS := PySem.W.mg_of X G z_BASIS, y_BASIS := fun H => GD.rdK_ref y_BASIS H, n_bool := PySem.W.mg_none_of X G zn_bool, n_int := PySem.W.mg_none_of X G zn_int, n_isinstance := PySem.W.mg_none_of X G zn_isinstance, n_len := PySem.W.mg_none_of X G zn_len, n_list := PySem.W.mg_none_of X G zn_list, n_range := PySem.W.mg_none_of X G zn_range, n_reversed := PySem.W.mg_none_of X G zn_reversed, n_str := PySem.W.mg_none_of X G zn_str, n_tuple := PySem.W.mg_none_of X G zn_tuple }
  exact ⟨_, fun s v => .of_eq rfl, fun base _ _ => ok_law T⟩
theorem walk {l : PySem.W.OpenLaw} {q : Program} {loose : List Str} {XP : (Str → Option Value) → Heap → Prop} {YP : World → Heap → Prop} {d : DefRec} {K : Params → PySem.W.Frag} (hn : l.most = some 63) (hdf : d.params.defaults = [])
    (hY : ∀ (w : World) (h : Heap), YP w h → (K w.params).In h)
    (F : ∀ (w : World) (mg : Str → Option Value) (fa : Addr) (h : Heap), (K w.params).In h → h.Ns mainGlobals mg → mg d.name = some (.ref fa) →
      ∃ fd : FuncData, (∀ (s : Shared) (u : Value), BindsTo s fd ⟨[u], []⟩ [("script", u)]) ∧ ∀ base : Heap, (K w.params).In base → base.Ns mainGlobals mg → FnOk l.prog w (K w.params) mg base CX0 53 fa fd ["script"] (spLaw (K w.params))) :
    PySem.W.WalkO q loose XP YP l.row.toRowW d [] (fun f vs => PySem.call f vs) :=
  L2.walk_of (n := 63) (k := 53) (x := "script") (CX := fun _ => CX0) (sp := fun w => spLaw (K w.params)) hn (by decide) hdf ⟨rfl, by decide, by decide⟩ hY F (fun _ _ a ns hl _ hS => ⟨a, ns, rfl, hS, hl, fun _ => rfl⟩) fun _ _ _ _ _ z => z
end K87
open PySem PySem.W PyProof.Rows in
set_option maxRecDepth 100000 in
set_option maxHeartbeats 0 in
theorem PySem.Challenge.cw_shapewright_k87_reports_holds : PySem.Challenge.rw_shapewright_k87_reports.Holds := by
  w_on; o_law; k_head; (case hw => w_witness2)
  k_fill
  refine K87.walk (l := PySem.Challenge.rw_shapewright_k87_reports) rfl rfl (fun w h Y => PySem.W.kIn_of Y) ?F
  case F =>
    intro w mg fa h KX G hmg
    refine' K87.all_mk KX G hmg ?a0 ?l0 ?c0 ?k0 ?a1 ?l1 ?c1 ?k1 ?a2 ?l2 ?c2 ?k2 ?a3 ?l3 ?c3 ?k3 ?a4 ?l4 ?c4 ?k4 ?a5 ?l5 ?c5 ?k5 ?a6 ?l6 ?c6 ?k6 ?a7 ?l7 ?c7 ?k7 ?a8 ?l8 ?c8 ?k8 ?a9 ?l9 ?c9 ?k9 ?a10 ?l10 ?c10 ?k10 ?a11 ?l11 ?c11 ?k11 ?a12 ?l12 ?c12 ?k12 ?a13 ?l13 ?c13 ?k13 ?a14 ?l14 ?c14 ?k14 ?a15 ?l15 ?c15 ?k15 ?a16 ?l16 ?c16 ?k16 ?a17 ?l17 ?c17 ?k17 ?a18 ?l18 ?c18 ?k18 ?a19 ?l19 ?c19 ?k19 ?a20 ?l20 ?c20 ?k20 ?a21 ?l21 ?c21 ?k21 ?a22 ?l22 ?c22 ?k22 ?a23 ?l23 ?c23 ?k23 ?a24 ?l24 ?c24 ?k24 ?a25 ?l25 ?c25 ?k25 ?a26 ?l26 ?c26 ?k26 ?a27 ?l27 ?c27 ?k27 ?a28 ?l28 ?c28 ?k28 ?a29 ?l29 ?c29 ?k29 ?a30 ?l30 ?c30 ?k30 ?a31 ?l31 ?c31 ?k31 ?a32 ?l32 ?c32 ?k32 ?a33 ?l33 ?c33 ?k33 ?a34 ?l34 ?c34 ?k34 ?a35 ?l35 ?c35 ?k35 ?a36 ?l36 ?c36 ?k36 ?a37 ?l37 ?c37 ?k37 ?a38 ?l38 ?c38 ?k38 ?z_FREE ?z_MAX_SIZE ?z_MAX_DEPTH ?z_EXN ?y_EXN ?z_LETTERS ?z_BASIS ?y_BASIS ?zn_bool ?zn_int ?zn_isinstance ?zn_len ?zn_list ?zn_range ?zn_reversed ?zn_str ?zn_tuple
    (case a0 => k_is)
    (case l0 => k_is)
    (case c0 => k_is)
    (case k0 => k_is)
    (case a1 => k_is)
    (case l1 => k_is)
    (case c1 => k_is)
    (case k1 => k_is)
    (case a2 => k_is)
    (case l2 => k_is)
    (case c2 => k_is)
    (case k2 => k_is)
    (case a3 => k_is)
    (case l3 => k_is)
    (case c3 => k_is)
    (case k3 => k_is)
    (case a4 => k_is)
    (case l4 => k_is)
    (case c4 => k_is)
    (case k4 => k_is)
    (case a5 => k_is)
    (case l5 => k_is)
    (case c5 => k_is)
    (case k5 => k_is)
    (case a6 => k_is)
    (case l6 => k_is)
    (case c6 => k_is)
    (case k6 => k_is)
    (case a7 => k_is)
    (case l7 => k_is)
    (case c7 => k_is)
    (case k7 => k_is)
    (case a8 => k_is)
    (case l8 => k_is)
    (case c8 => k_is)
    (case k8 => k_is)
    (case a9 => k_is)
    (case l9 => k_is)
    (case c9 => k_is)
    (case k9 => k_is)
    (case a10 => k_is)
    (case l10 => k_is)
    (case c10 => k_is)
    (case k10 => k_is)
    (case a11 => k_is)
    (case l11 => k_is)
    (case c11 => k_is)
    (case k11 => k_is)
    (case a12 => k_is)
    (case l12 => k_is)
    (case c12 => k_is)
    (case k12 => k_is)
    (case a13 => k_is)
    (case l13 => k_is)
    (case c13 => k_is)
    (case k13 => k_is)
    (case a14 => k_is)
    (case l14 => k_is)
    (case c14 => k_is)
    (case k14 => k_is)
    (case a15 => k_is)
    (case l15 => k_is)
    (case c15 => k_is)
    (case k15 => k_is)
    (case a16 => k_is)
    (case l16 => k_is)
    (case c16 => k_is)
    (case k16 => k_is)
    (case a17 => k_is)
    (case l17 => k_is)
    (case c17 => k_is)
    (case k17 => k_is)
    (case a18 => k_is)
    (case l18 => k_is)
    (case c18 => k_is)
    (case k18 => k_is)
    (case a19 => k_is)
    (case l19 => k_is)
    (case c19 => k_is)
    (case k19 => k_is)
    (case a20 => k_is)
    (case l20 => k_is)
    (case c20 => k_is)
    (case k20 => k_is)
    (case a21 => k_is)
    (case l21 => k_is)
    (case c21 => k_is)
    (case k21 => k_is)
    (case a22 => k_is)
    (case l22 => k_is)
    (case c22 => k_is)
    (case k22 => k_is)
    (case a23 => k_is)
    (case l23 => k_is)
    (case c23 => k_is)
    (case k23 => k_is)
    (case a24 => k_is)
    (case l24 => k_is)
    (case c24 => k_is)
    (case k24 => k_is)
    (case a25 => k_is)
    (case l25 => k_is)
    (case c25 => k_is)
    (case k25 => k_is)
    (case a26 => k_is)
    (case l26 => k_is)
    (case c26 => k_is)
    (case k26 => k_is)
    (case a27 => k_is)
    (case l27 => k_is)
    (case c27 => k_is)
    (case k27 => k_is)
    (case a28 => k_is)
    (case l28 => k_is)
    (case c28 => k_is)
    (case k28 => k_is)
    (case a29 => k_is)
    (case l29 => k_is)
    (case c29 => k_is)
    (case k29 => k_is)
    (case a30 => k_is)
    (case l30 => k_is)
    (case c30 => k_is)
    (case k30 => k_is)
    (case a31 => k_is)
    (case l31 => k_is)
    (case c31 => k_is)
    (case k31 => k_is)
    (case a32 => k_is)
    (case l32 => k_is)
    (case c32 => k_is)
    (case k32 => k_is)
    (case a33 => k_is)
    (case l33 => k_is)
    (case c33 => k_is)
    (case k33 => k_is)
    (case a34 => k_is)
    (case l34 => k_is)
    (case c34 => k_is)
    (case k34 => k_is)
    (case a35 => k_is)
    (case l35 => k_is)
    (case c35 => k_is)
    (case k35 => k_is)
    (case a36 => k_is)
    (case l36 => k_is)
    (case c36 => k_is)
    (case k36 => k_is)
    (case a37 => k_is)
    (case l37 => k_is)
    (case c37 => k_is)
    (case k37 => k_is)
    (case a38 => k_is)
    (case l38 => k_is)
    (case c38 => k_is)
    (case k38 => k_is)
    (case z_FREE => k_is)
    (case z_MAX_SIZE => k_is)
    (case z_MAX_DEPTH => k_is)
    (case z_EXN => k_is)
    (case y_EXN => with_unfolding_all rfl)
    (case z_LETTERS => k_is)
    (case z_BASIS => k_is)
    (case y_BASIS => with_unfolding_all rfl)
    (case zn_bool => k_is)
    (case zn_int => k_is)
    (case zn_isinstance => k_is)
    (case zn_len => k_is)
    (case zn_list => k_is)
    (case zn_range => k_is)
    (case zn_reversed => k_is)
    (case zn_str => k_is)
    (case zn_tuple => k_is)
